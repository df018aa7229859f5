/- The program's DerivationKernel returns what the reference's returns,for all arguments;no conditions. -/
import Derived.Test.YtibamokcnfffhaaGreatAbB
import Derived.Test.YtibamokcnfffhaaGreatWF
open List renaming replicate→J1,getD_eq_getElem?_getD→J4,getElem?_eq_getElem→J5,getElem?_eq_some_iff→J8,length_append→J9,mem_map→Ja,append_assoc→Jb,getElem?_append_right→Jd,append_nil→Je,length_map→Jf,map_cons→Jg,length_cons→Jh,getElem?_map→Jj,take_succ_eq_append_getElem→Jk,mem_cons→Jl,range→Jo,take_of_length_le→Jp,mem_append→Jq,getElem?_replicate→Js,getElem_mem→Jw,replicate_succ→Jz,replicate_append_replicate→K0,getElem?_append→K2,nil_append→K3,getElem?_append_left→K5,set_cons_zero→K8,mem_range→Kd,take_zero→Kg,singleton_append→Kh,take_succ_cons→Kj,cons_append→Kl,length_replicate→Kn,length_take→Kr,range_succ→Kt,ext_getElem?→Kw,mem_iff_getElem→L0,getElem?_drop→L1,set_append_right→Ld,map_append→Le,range'_succ→Lo,mem_flatMap→Lx,map_nil→Ly,length_range→Lz,drop_eq_getElem_cons→H6,range'→H7,replicate_zero→Hf,take_length→Hy,length_nil→G7,getElem?_cons_zero→Gp,range_succ_eq_map→Gy,suffix_cons_iff→Ug,replicate_succ'→Uh,getD_cons_zero→Up,findSome?_cons→Uq,foldl_append→Ux,flatten_cons→Uy,length→Q5,all_cons→Q7,getElem?_cons_succ→Q9,flatMap_append→Qa,drop_of_length_le→Qd,take_append_drop→Qg,getElem?_set→Qh,drop_zero→Jaz,length_drop→Jbf
open Bool renaming and_eq_true→J2,not_true→Jm,not_false→Ka
open Nat renaming zero_add→J6,le_refl→Ji,sub_self→K6,zero_le→Km,succ_mul→Kz,add_assoc→L9,le_trans→Lb,lt_or_ge→Hv,strongRecOn→Gb,min_eq_left→Gx,add_zero→U1,sub_zero→Q3,zero_sub→Jaq,lt_trichotomy→Jar
open Int renaming toNat_natCast→Jn,emod_eq_of_lt→K1,mul_le_mul→Kf,emod_lt_of_pos→Ko,tmod_eq_emod_of_nonneg→L4,emod_nonneg→L7,mul_le_mul_of_nonneg_left→Lg,add_zero→Ln,toNat_zero→Lp,mul_emod→H3,mul_one→Hd,mul_nonneg→He,sub_emod_right→Ho,add_emod_right→Hp,zero_add→Hw,emod_add_emod→Hx,emod_emod→Gt,dvd_of_emod_eq_zero→U0,tmod_add_mul_tdiv→Ul,tdiv_eq_ediv_of_nonneg→Um,emod_self→Uu,lt_tmod_of_pos→Uz,tmod→Qi,tmod_lt_of_pos→Ja1,mul_zero→Jas,add_emod→Jat,one_mul→Jb0,mul_add→Jb1,add_mul→Jb2
open Option renaming map_eq_some_iff→Jt,map_some→Lm,some→G6,getD_some→G9,isSome_iff_exists→Gf
open Option renaming some→aN,none→aO
open Bool renaming true→aP,false→aQ
namespace Go.Pc
abbrev Vec:=List Int
structure Lvl where
 o:Int
 w:Vec
 cs:List Vec
abbrev Pcp:=List Lvl
def zeros(n:Nat):Vec:=J1 n 0
def iter{α:Type}:Nat→(α→α)→α→α
 |0,_,x=>x
 |n+1,f,x=>iter n f (f x)
theorem wJ{α:Type}(f:α→α):∀(n:Nat)(x:α),iter (n+1) f x=f (iter n f x)
 |0,_=>rfl
 |n+1,x=>by rw[iter,wJ f n (f x)];rfl
theorem zCh{α:Type}(f:α→α)(a:Nat):∀(b:Nat)(x:α),iter (a+b) f x=iter a f (iter b f x)
 |0,_=>rfl
 |b+1,x=>by show iter (a+b) f (f x)=_;rw[zCh f a b (f x)];rfl
def img{α:Type}(m:α→α→α):List α→Vec→α→α
 |c::cs,x::xs,acc=>img m cs xs (iter x.toNat (fun v=>m v c) acc)
 |_,_,acc=>acc
def V:Pcp→Vec→Prop
 | [],v=>v=[]
 |l::P,v=>match v with
  | []=>False
  |a::x=>(0≤a∧a<l.o)∧V P x
def mul:Pcp→Vec→Vec→Vec
 |l::P,a::x,b::y=>
  let r:=mul P (iter b.toNat (fun v=>img (mul P) l.cs v (zeros P.length)) x) y
  if a+b≥l.o then(a+b-l.o)::mul P l.w r else(a+b)::r
 |_,_,_=>[]
def Ok:Pcp→Prop
 | []=>True
 |l::P=>1<l.o∧V P l.w∧l.cs.length=P.length∧(∀c∈l.cs,V P c)∧Ok P
structure Mon {α:Type} (S:α→Prop) (m:α→α→α) (e:α):Prop where
 cl:∀{a b},S a→S b→S (m a b)
 ein:S e
 assoc:∀{a b c},S a→S b→S c→m (m a b) c=m a (m b c)
 onel:∀{a},S a→m e a=a
 oner:∀{a},S a→m a e=a
structure Grp {α:Type} (S:α→Prop) (m:α→α→α) (e:α):Prop extends Mon S m e where
 inv:∀{a},S a→ ∃b,S b∧m a b=e
theorem Grp.invl{α:Type}{S:α→Prop}{m:α→α→α}{e:α}(h:Grp S m e){a:α}(ha:S a):∃b,S b∧m a b=e∧m b a=e:=by
 obtain⟨b,hb,h1⟩:=h.inv ha;obtain⟨c,hc,h2⟩:=h.inv hb;refine⟨b,hb,h1,?_⟩;have:a=c:=by rw[←h.oner ha,←h2,←h.assoc ha hb hc,h1,h.onel hc]
 grind
theorem Grp.cancel_l{α:Type}{S:α→Prop}{m:α→α→α}{e:α}(h:Grp S m e){a b c:α}(ha:S a)(hb:S b)(hc:S c)(hh:m a b=m a c):b=c:=by obtain⟨d,hd,_,h2⟩:=h.invl ha;rw[←h.onel hb,←h.onel hc,←h2,h.assoc hd ha hb,h.assoc hd ha hc,hh]
section
variable {α:Type}{S:α→Prop}{m:α→α→α}{e:α}
def pw(m:α→α→α)(e:α)(x:α)(k:Nat):α:=iter k (fun v=>m v x) e
theorem xN(h:Mon S m e){x:α}(hx:S x):∀k,S (pw m e x k)
 |0=>h.ein
 |k+1=>by rw[pw,wJ];exact h.cl (xN h hx k) hx
theorem uO{f:α→α}(hf:∀a,S a→S (f a)):∀(k:Nat){x:α},S x→S (iter k f x)
 |0,_,hx=>hx
 |k+1,_,hx=>uO hf k (hf _ hx)
theorem zCi(h:Mon S m e){x a:α}(hx:S x)(ha:S a):∀k,iter k (fun v=>m v x) a=m a (pw m e x k)
 |0=>(h.oner ha).symm
 |k+1=>by rw[wJ,zCi h hx ha k];show _=m a (iter (k+1) (fun v=>m v x) e);rw[wJ];exact h.assoc ha (xN h hx k) hx
theorem jF(h:Mon S m e){x:α}(hx:S x)(a b:Nat):pw m e x (a+b)=m (pw m e x a) (pw m e x b):=by rw[Nat.add_comm,pw,zCh,←zCi h hx (xN h hx a) b];rfl
theorem zG0(h:Mon S m e){x:α}(hx:S x):pw m e x 1=x:=h.onel hx
theorem zM5(h:Mon S m e){x:α}(hx:S x)(k:Nat):pw m e x (k+1)=m x (pw m e x k):=by rw[Nat.add_comm,jF h hx 1 k,zG0 h hx]
theorem sU(h:∀{a b},S a→S b→S (m a b)):∀(cs:List α)(x:Vec){a:α},(∀c∈cs,S c)→S a→S (img m cs x a)
 |c::cs,x::xs,_,hc,ha=>by simp only[img];exact sU h cs xs (by grind) (uO (by simp_all) _ ha)
 | [],_,_,_,ha=>by grind[img]
 |_::_,[],_,_,ha=>by grind[img]
theorem zCJ(h:Mon S m e)(cs:List α)(x:Vec){a:α}(hc:∀c∈cs,S c)(ha:S a):S (img m cs x a):=sU h.cl cs x hc ha
theorem zCj(h:Mon S m e):∀(cs:List α)(x:Vec){a:α},(∀c∈cs,S c)→S a→img m cs x a=m a (img m cs x e)
 |c::cs,x::xs,a,hc,ha=>by
  have h1:S c:=hc c (by simp);have h2:∀c∈cs,S c:=by grind
  simp only[img];rw[zCi h h1 ha,zCj h cs xs h2 (h.cl ha (xN h h1 _)),zCi h h1 h.ein,zCj h cs xs h2 (h.cl h.ein (xN h h1 _)),h.onel (xN h h1 _),
   h.assoc ha (xN h h1 _) (zCJ h cs xs h2 h.ein)]
 | [],_,a,_,ha=>by simp[img,h.oner ha]
 |_::_,[],a,_,ha=>by simp[img,h.oner ha]
theorem uY(h:Mon S m e){c:α}{cs:List α}{x:Int}{xs:Vec}(hc:S c)(gS:∀c∈cs,S c):img m (c::cs) (x::xs) e=m (pw m e c x.toNat) (img m cs xs e):=by simp only[img];rw[zCj h cs xs gS (uO (fun a ha=>h.cl ha hc) _ h.ein)];rfl
theorem jX(m:α→α→α):∀(cs:List α)(n:Nat)(a:α),img m cs (zeros n) a=a
 | [],_,_=>by simp[img]
 |_::_,0,_=>by rfl
 |c::cs,n+1,a=>by simp only[zeros,Jz,img,Lp,iter];exact jX m cs n a
theorem zEn(h:Mon S m e){g:α}(hg:S g):∀(cs ds:List α)(x:Vec),(∀c∈cs,S c)→(∀c∈ds,S c)→cs.length=ds.length→(∀(k:Nat) c d,cs[k]? =aN c→ds[k]? =aN d→m c g=m g d)→m (img m cs x e) g=m g (img m ds x e)
 | [],[],x,_,_,_,_=>by simp[img,h.onel hg,h.oner hg]
 |c::cs,d::ds,[],_,_,_,_=>by simp[img,h.onel hg,h.oner hg]
 |c::cs,d::ds,x::xs,hc,hd,hl,hp=>by
  have ek:S c:=hc c (by simp);have hd0:S d:=hd d (by simp);have gS:∀c∈cs,S c:=by grind
  have cC:∀c∈ds,S c:=by grind
  have key:∀k,m (pw m e c k) g=m g (pw m e d k):=by
   intro k
   induction k with
   |zero=>simp[pw,iter,h.onel hg,h.oner hg]
   |succ k ih=>
    have h0:m c g=m g d:=hp 0 c d rfl rfl;rw[pw,wJ,pw,wJ];show m (m (pw m e c k) c) g=m g (m (pw m e d k) d);rw[h.assoc (xN h ek k) ek hg,h0,←h.assoc (xN h ek k) hg hd0,ih,h.assoc hg (xN h hd0 k) hd0]
  rw[uY h ek gS,uY h hd0 cC,h.assoc (xN h ek _) (zCJ h _ _ gS h.ein) hg,zEn h hg cs ds xs gS cC (by grind) (fun k c d h1 h2=>hp (k+1) c d (by grind) (by grind)),
   ←h.assoc (xN h ek _) hg (zCJ h _ _ cC h.ein),key,h.assoc hg (xN h hd0 _) (zCJ h _ _ cC h.ein)]
theorem zJW{β:Type}{T:β→Prop}{n:β→β→β}{f:β}(h:Mon S m e)(h':Mon T n f)(φ:α→β)(gV:∀a,S a→T (φ a))(h1:φ e=f)(hm:∀a b,S a→S b→φ (m a b)=n (φ a) (φ b)):∀(cs:List α)(x:Vec),(∀c∈cs,S c)→φ (img m cs x e)=img n (cs.map φ) x f
 | [],_,_=>by simp[img,h1]
 |c::cs,[],_=>by simp[img,h1]
 |c::cs,x::xs,hc=>by
  have ek:S c:=hc c (by simp);have gS:∀c∈cs,S c:=by grind
  have key:∀k,φ (pw m e c k)=pw n f (φ c) k:=by
   intro k
   induction k with
   |zero=>grind[pw,iter]
   |succ k ih=>
    grind[pw,wJ,xN]
  rw[uY h ek gS,Jg,uY h' (gV c ek) (by simp_all),hm _ _ (xN h ek _) (zCJ h _ _ gS h.ein),key,zJW h h' φ gV h1 hm cs xs gS]
end
theorem wS:∀{P:Pcp},Ok P→V P (zeros P.length)
 | [],_=>rfl
 |l::P,h=>by simp only[Ok]at h;simp only[Jh,zeros,Jz,V];exact⟨by omega,wS h.2.2.2.2⟩
theorem xJ:∀{P:Pcp},Ok P→ ∀{x y:Vec},V P x→V P y→V P (mul P x y)
 | [],_,_,_,hx,hy=>by rfl
 |l::P,h,[],_,hx,_=>by grind[V]
 |l::P,h,_::_,[],_,hy=>by grind[V]
 |l::P,h,a::x,b::y,hx,hy=>by
  simp only[Ok]at h;simp only[V]at hx hy;have h1:∀v,V P v→V P (img (mul P) l.cs v (zeros P.length)):=fun v hv=>sU (xJ h.2.2.2.2) l.cs v h.2.2.2.1 (wS h.2.2.2.2)
  have h2:=xJ h.2.2.2.2 (uO h1 b.toNat hx.2) hy.2;simp only[mul];split
  ·exact⟨by omega,xJ h.2.2.2.2 h.2.1 h2⟩
  ·exact⟨by omega,h2⟩
def Rel{α:Type}(m:α→α→α)(e:α):Pcp→List α→Prop
 | [],s=>s=[]
 |l::P,s=>match s with
  | []=>False
  |g::s=>pw m e g l.o.toNat=img m s l.w e∧(∀(k:Nat) c d,s[k]? =aN c→l.cs[k]? =aN d→m c g=m g (img m s d e))∧Rel m e P s
section
variable {α:Type}{S:α→Prop}{m:α→α→α}{e:α}
theorem zTf(h:Mon S m e):∀(P:Pcp)(s:List α),Ok P→(∀g∈s,S g)→Rel m e P s→ ∀x y,V P x→V P y→img m s (mul P x y) e=m (img m s x e) (img m s y e)
 | [],s,_,_,hr,x,y,hx,hy=>by simp only[Rel]at hr;subst hr;simp[img,h.onel h.ein]
 |l::P,[],_,_,hr,_,_,_,_=>by grind[Rel]
 |l::P,g::s,_,_,_,[],_,hx,_=>by grind[V]
 |l::P,g::s,_,_,_,_::_,[],_,hy=>by grind[V]
 |l::P,g::s,hk,hs,hr,a::x,b::y,hx,hy=>by
  simp only[Ok]at hk;simp only[Rel]at hr;simp only[V]at hx hy;obtain⟨ho,hw,gJ,gS,bM⟩:=hk;obtain⟨gX,e6,ez⟩:=hr;have hg:S g:=hs g (by simp);have cL:∀c∈s,S c:=by grind
  have gg:s.length=P.length:=by
   clear gX e6 hx hy hw gJ gS hs cL
   induction P generalizing s with
   |nil=>grind[Rel]
   |cons l P ih=>
    cases s with
    |nil=>grind[Rel]
    |cons c s=>grind[Rel,Ok]
  have ih:=zTf h P s bM cL ez;have hφ:∀v,S (img m s v e):=fun v=>zCJ h s v cL h.ein
  have hmP:∀{a b},V P a→V P b→V P (mul P a b):=xJ bM;have mu:∀v,V P v→V P (img (mul P) l.cs v (zeros P.length)):=fun v hv=>sU hmP l.cs v gS (wS bM)
  have hσ:∀v,V P v→m (img m s v e) g=m g (img m s (img (mul P) l.cs v (zeros P.length)) e):=by
   intro v hv;have key:∀(cs:List Vec)(v:Vec)(acc:Vec),(∀c∈cs,V P c)→V P acc→img m s (img (mul P) cs v acc) e=img m (cs.map fun c=>img m s c e) v (img m s acc e):=by
    intro cs
    induction cs with
    |nil=>grind[img]
    |cons c cs ihc=>
     intro v acc hc hacc;cases v with
     |nil=>simp[img]
     |cons z v=>
      have ek:V P c:=hc c (by simp);have it:∀k acc,V P acc→img m s (iter k (fun v=>mul P v c) acc) e=iter k (fun v=>m v (img m s c e)) (img m s acc e):=by
       intro k
       induction k with
       |zero=>intro acc _;rfl
       |succ k ihk=>
        simp_all[iter]
      simp only[img,Jg];rw[ihc v _ (by simp_all) (uO (by grind) _ hacc),it _ _ hacc]
   rw[key l.cs v (zeros P.length) gS (wS bM),jX];refine zEn h hg s _ v cL (by simp_all) (by grind) ?_;intro k c d hc hd;simp only[Jj,Jt]at hd;obtain⟨d',cZ,rfl⟩:=hd
   grind
  have hσk:∀k v,V P v→m (img m s v e) (pw m e g k)=m (pw m e g k) (img m s (iter k (fun v=>img (mul P) l.cs v (zeros P.length)) v) e):=by
   intro k
   induction k with
   |zero=>intro v _;simp[pw,iter,h.onel (hφ v),h.oner (hφ v)]
   |succ k ihk=>
    intro v hv;rw[zM5 h hg,←h.assoc (hφ v) hg (xN h hg k),hσ v hv,h.assoc hg (hφ _) (xN h hg k),ihk _ (mu v hv),←h.assoc hg (xN h hg k) (hφ _)];rfl
  have eV:=xN h hg a.toNat;have bH:=xN h hg b.toNat;have fy:V P (iter b.toNat (fun v=>img (mul P) l.cs v (zeros P.length)) x):=uO mu _ hx.2;have ba:m (img m (g::s) (a::x) e) (img m (g::s) (b::y) e)=m (pw m e g (a.toNat+b.toNat)) (img m s (mul P (iter b.toNat (fun v=>img (mul P) l.cs v (zeros P.length)) x) y) e):=by rw[uY h hg cL,uY h hg cL,h.assoc eV (hφ x) (h.cl bH (hφ y)),←h.assoc (hφ x) bH (hφ y),hσk _ _ hx.2,h.assoc bH (hφ _) (hφ y),←ih _ _ fy hy.2,←h.assoc eV bH (hφ _),jF h hg]
  rw[ba];simp only[mul];split
  ·rename_i hge
   rw[uY h hg cL,ih _ _ hw (hmP fy hy.2),←gX,←h.assoc (xN h hg _) (xN h hg _) (hφ _),←jF h hg]
   congr 2
   omega
  ·rw[uY h hg cL]
   congr 2
   omega
end
def tF(n j:Nat):Vec:=(zeros n).set j 1
def sig(P:Pcp)(l:Lvl)(v:Vec):Vec:=img (mul P) l.cs v (zeros P.length)
def wK:Pcp→Prop
 | []=>True
 |l::P=>wK P∧Rel (mul P) (zeros P.length) P l.cs∧sig P l l.w=l.w∧ ∀j,j<P.length→mul P l.w (iter l.o.toNat (sig P l) (tF P.length j))=mul P (tF P.length j) l.w
theorem zF2(n:Nat):tF (n+1) 0=1::zeros n:=rfl
theorem zKF(n j:Nat):tF (n+1) (j+1)=0::tF n j:=rfl
def uM(n:Nat):List Vec:=(Jo n).map (tF n)
theorem zIA(n:Nat):uM (n+1)=(1::zeros n)::(uM n).map (0::·):=by
 simp only[uM,Gy,Jg,List.map_map,zF2]
 congr 1
theorem zCK:∀{P:Pcp},Ok P→ ∀{j:Nat},j<P.length→V P (tF P.length j)
 | [],_,_,hj=>by simp at hj
 |l::P,h,0,_=>by grind[Ok,zF2,V,wS]
 |l::P,h,j+1,hj=>by simp only[Ok]at h;rw[Jh,zKF];simp only[V];exact⟨by omega,zCK h.2.2.2.2 (by grind)⟩
theorem zG1{l:Lvl}{P:Pcp}(h:Ok (l::P)){v:Vec}(_hv:V P v):V P (sig P l v):=by simp only[Ok]at h;exact sU (xJ h.2.2.2.2) l.cs v h.2.2.2.1 (wS h.2.2.2.2)
theorem yG(l:Lvl)(P:Pcp)(a b:Int)(x y:Vec):mul (l::P) (a::x) (b::y)=if a+b≥l.o then(a+b-l.o)::mul P l.w (mul P (iter b.toNat (sig P l) x) y)else(a+b)::mul P (iter b.toNat (sig P l) x) y:=rfl
theorem zKG{n k:Nat}{c:Vec}(h:(uM n)[k]? =aN c):k<n∧c=tF n k:=by
 simp only[uM,Jj,Jt]at h
 grind
theorem normal:∀(P:Pcp),Ok P→(∀Q,Q<:+P→Mon (V Q) (mul Q) (zeros Q.length))→ ∀x,V P x→img (mul P) (uM P.length) x (zeros P.length)=x
 | [],_,_,x,hx=>by grind[V,img,zeros]
 |l::P,_,_,[],hx=>by grind[V]
 |l::P,h,hM,a::x,hx=>by
  have hMl:=hM (l::P) (List.suffix_refl _);have hMP:=hM P (by simp);have h':=h;simp only[Ok]at h;simp only[V]at hx;rw[Jh,zIA];have hz:V P (zeros P.length):=wS h.2.2.2.2;have bE:V (l::P) (1::zeros P.length):=by grind[V]
  have eL:∀c∈(uM P.length).map (0::·),V (l::P) c:=by
   intro c hc;simp only[uM,List.map_map,Ja,Kd]at hc;obtain⟨j,hj,rfl⟩:=hc;simp only[Function.comp,V]
   grind[zCK]
  have cc:V (l::P) (zeros (P.length+1)):=by grind[wS]
  rw[show zeros (P.length+1)=zeros (l::P).length from rfl];rw[uY hMl bE eL];have sz:∀k:Nat,iter k (sig P l) (zeros P.length)=zeros P.length:=by
   intro k
   induction k with
   |zero=>rfl
   |succ k ih=>grind[iter,sig,jX]
  have h1:∀k:Nat,(k:Int)<l.o→pw (mul (l::P)) (zeros (l::P).length) (1::zeros P.length) k=(k:Int)::zeros P.length:=by
   intro k
   induction k with
   |zero=>intro _;rfl
   |succ k ih=>
    intro hk;rw[pw,wJ];show mul (l::P) (pw (mul (l::P)) (zeros (l::P).length) (1::zeros P.length) k) (1::zeros P.length)=_;rw[ih (by omega),yG,if_neg (by omega)];rw[sz,hMP.onel hz];rfl
  have h2:∀(cs:List Vec)(y acc:Vec),(∀c∈cs,V P c)→V P acc→img (mul (l::P)) (cs.map (0::·)) y (0::acc)=0::img (mul P) cs y acc:=by
   intro cs
   induction cs with
   |nil=>grind[img]
   |cons c cs ih=>
    intro y acc hc hacc;cases y with
    |nil=>simp[img]
    |cons z y=>
     have ek:V P c:=hc c (by simp);have it:∀(k:Nat)(acc:Vec),V P acc→iter k (fun v=>mul (l::P) v (0::c)) (0::acc)=0::iter k (fun v=>mul P v c) acc:=by
      intro k
      induction k with
      |zero=>intro _ _;rfl
      |succ k ihk=>
       intro acc hacc;simp only[iter];rw[yG,if_neg (by omega)];exact ihk _ (xJ h.2.2.2.2 hacc ek)
     simp only[Jg,img];rw[it _ _ hacc,ih _ _ (by grind) (uO (by grind[xJ]) _ hacc)]
  have fw:∀c∈uM P.length,V P c:=by
   intro c hc;simp only[uM,Ja,Kd]at hc;obtain⟨j,hj,rfl⟩:=hc
   grind[zCK]
  rw[h1 a.toNat (by omega),show zeros (l::P).length=0::zeros P.length from rfl,h2 _ _ _ fw hz,normal P h.2.2.2.2 (by grind) x hx.2,yG,if_neg (by omega)];simp only[Lp,iter];rw[hMP.onel hx.2]
  grind
theorem zH4:∀(P:Pcp),Ok P→wK P→Grp (V P) (mul P) (zeros P.length)
 | [],_,_=>by
  refine⟨⟨fun _ _=>rfl,rfl,fun _ _ _=>rfl,?_,?_⟩,fun ha=>⟨[],rfl,rfl⟩⟩<;>
  ·intro a ha
   simp only[V]at ha;subst ha;rfl
 |l::P,h,hc=>by
  have h':=h;simp only[Ok]at h;simp only[wK]at hc;obtain⟨ho,hw,gJ,gS,hP⟩:=h;obtain⟨aB,po,bm,bi⟩:=hc;have N:=zH4 P hP aB;have hM:∀Q,Q<:+P→Mon (V Q) (mul Q) (zeros Q.length):=by
   intro Q hQ;obtain⟨t,ht⟩:=hQ;have:Ok Q∧wK Q:=by
    clear N hw gJ gS po bm bi h'
    induction t generalizing P with
    |nil=>grind
    |cons a t ih=>
     simp at ht;subst ht;simp only[Ok]at hP;simp only[wK]at aB
     grind
   have gI:SizeOf.sizeOf Q≤SizeOf.sizeOf P:=by
    rw[←ht]
    clear N hw gJ gS po bm bi h' hP aB ht this
    induction t with
    |nil=>simp
    |cons a t ih=>grind
   exact(zH4 Q this.1 this.2).toMon
  have hz:V P (zeros P.length):=wS hP;have σin:∀v,V P v→V P (sig P l v):=by grind[zG1]
  have σhom:∀x y,V P x→V P y→sig P l (mul P x y)=mul P (sig P l x) (sig P l y):=fun x y hx hy=>zTf N.toMon P l.cs hP gS po x y hx hy
  have σz:sig P l (zeros P.length)=zeros P.length:=jX _ _ _ _;have itin:∀(k:Nat) v,V P v→V P (iter k (sig P l) v):=fun k v hv=>uO σin k hv
  have ithom:∀(k:Nat) x y,V P x→V P y→iter k (sig P l) (mul P x y)=mul P (iter k (sig P l) x) (iter k (sig P l) y):=by
   intro k
   induction k with
   |zero=>intro _ _ _ _;rfl
   |succ k ih=>simp_all[iter]
  have itz:∀k:Nat,iter k (sig P l) (zeros P.length)=zeros P.length:=by
   intro k
   induction k with
   |zero=>rfl
   |succ k ih=>grind[iter]
  have itw:∀k:Nat,iter k (sig P l) l.w=l.w:=by
   intro k
   induction k with
   |zero=>rfl
   |succ k ih=>grind[iter]
  have fw:∀c∈uM P.length,V P c:=by
   intro c hc;simp only[uM,Ja,Kd]at hc;obtain⟨j,hj,rfl⟩:=hc
   grind[zCK]
  have inner:∀x,V P x→mul P x l.w=mul P l.w (iter l.o.toNat (sig P l) x):=by
   intro x hx;have hnf:=normal P hP hM x hx;have fX:=zJW N.toMon N.toMon (iter l.o.toNat (sig P l)) (by grind) (itz _) (by grind) (uM P.length) x fw;rw[←hnf,fX];refine zEn N.toMon hw _ _ x fw (by simp_all) (by simp) ?_;intro k c d hc hd;rw[Jj,Jt]at hd;obtain⟨c',cE,rfl⟩:=hd;rw[hc]at cE;simp at cE;subst cE;obtain⟨hk,rfl⟩:=zKG hc
   grind
  have e:∀(x y z:Vec)(b c:Int),V P x→V P y→V P z→0≤b→0≤c→
    mul P (iter c.toNat (sig P l) (mul P (iter b.toNat (sig P l) x) y)) z=mul P (iter (b+c).toNat (sig P l) x) (mul P (iter c.toNat (sig P l) y) z)∧
    mul P (iter c.toNat (sig P l) (mul P l.w (mul P (iter b.toNat (sig P l) x) y))) z=mul P l.w (mul P (iter (b+c).toNat (sig P l) x) (mul P (iter c.toNat (sig P l) y) z))∧
    (l.o≤b+c→mul P (iter (b+c-l.o).toNat (sig P l) x) (mul P l.w (mul P (iter c.toNat (sig P l) y) z))=mul P l.w (mul P (iter (b+c).toNat (sig P l) x) (mul P (iter c.toNat (sig P l) y) z))):=by
   intro x y z b c hx hy hz hb bQ;have aC:=itin b.toNat x hx;have hcy:=itin c.toNat y hy;have hbc:iter c.toNat (sig P l) (iter b.toNat (sig P l) x)=iter (b+c).toNat (sig P l) x:=by rw[←zCh];congr 1;omega
   have aE:=itin (b+c).toNat x hx;have e1:mul P (iter c.toNat (sig P l) (mul P (iter b.toNat (sig P l) x) y)) z=mul P (iter (b+c).toNat (sig P l) x) (mul P (iter c.toNat (sig P l) y) z):=by rw[ithom _ _ _ aC hy,hbc,N.assoc aE hcy hz]
   refine⟨e1,?_,?_⟩
   ·rw[ithom _ _ _ hw (N.cl aC hy),itw,N.assoc hw (itin _ _ (N.cl aC hy)) hz,e1]
   ·intro hge
    have bq:=N.cl hcy hz;rw[←N.assoc (itin _ x hx) hw bq,inner _ (itin _ x hx),←zCh,N.assoc hw (itin _ x hx) bq]
    congr 3
    omega
  refine⟨⟨by grind[xJ],wS h',?_,?_,?_⟩,?_⟩
  ·intro A B C hA hB hC
   match A,B,C,hA,hB,hC with
   |a::x,b::y,c::z,hA,hB,hC=>
    simp only[V]at hA hB hC;obtain⟨e1,e2,e3⟩:=e x y z b c hA.2 hB.2 hC.2 hB.1.1 hC.1.1
    by_cases c1:a+b≥l.o<;>by_cases c2:b+c≥l.o
    ·rw[yG,if_pos c1,yG l P b c,if_pos c2,yG,yG,e2,e3 c2]
     grind
    ·rw[yG,if_pos c1,yG l P b c,if_neg c2,yG,yG,e2,if_neg (by omega),if_pos (by omega)]
     grind
    ·rw[yG,if_neg c1,yG l P b c,if_pos c2,yG,yG,e1,e3 c2,if_pos (by omega),if_neg (by omega)]
     grind
    ·rw[yG,if_neg c1,yG l P b c,if_neg c2,yG,yG,e1]
     grind
  ·intro A hA
   match A,hA with
   |a::x,hA=>
    simp only[V]at hA;show mul (l::P) (0::zeros P.length) (a::x)=_;rw[yG,if_neg (by omega),itz,N.onel hA.2,Hw]
  ·intro A hA
   match A,hA with
   |a::x,hA=>
    simp only[V]at hA;show mul (l::P) (a::x) (0::zeros P.length)=_;rw[yG,if_neg (by omega)];simp only[Lp,iter];rw[N.oner hA.2,Ln]
  ·intro A hA
   match A,hA with
   |a::x,hA=>
    simp only[V]at hA
    by_cases ha:a=0
    ·obtain⟨y,hy,h1⟩:=N.inv hA.2
     refine⟨0::y,by simp only[V];grind,?_⟩;rw[yG,if_neg (by omega)];simp only[Lp,iter];rw[h1,ha];rfl
    ·have mA:=itin (l.o-a).toNat x hA.2
     obtain⟨y,hy,h1⟩:=N.inv (N.cl hw mA);refine⟨(l.o-a)::y,by simp only[V];grind,?_⟩;rw[yG,if_pos (by omega),←N.assoc hw mA hy,h1,show a+(l.o-a)-l.o=0 by omega];rfl
termination_by P=>P
end Go.Pc

namespace Go.Pc
structure Fil {α:Type} (S:α→Prop) (m:α→α→α) (e:α) (n:Nat) (o:Nat→Int) (co:α→Nat→Int):Prop where
 g:Grp S m e
 r:∀{a d},S a→d<n→0≤co a d∧co a d<o d
 e0:∀{d},d<n→co e d=0
 ex:∀{a b},S a→S b→(∀d,d<n→co a d=co b d)→a=b
 ad:∀{a b d},S a→S b→d<n→(∀j,j<d→co b j=0)→(∀j,j<d→co (m a b) j=co a j)∧co (m a b) d=(co a d+co b d)%o d
inductive Gen {α:Type} (S:α→Prop) (m:α→α→α) (e:α) (X:α→Prop):α→Prop
 |one:Gen S m e X e
 |x {a}:X a→Gen S m e X a
 |m {a b}:Gen S m e X a→Gen S m e X b→Gen S m e X (m a b)
 |i {a b}:Gen S m e X a→S b→m a b=e→Gen S m e X b
section
variable {α:Type}{S:α→Prop}{m:α→α→α}{e:α}{X Y:α→Prop}
theorem Gen.to(h:∀a,X a→Gen S m e Y a){a:α}(ha:Gen S m e X a):Gen S m e Y a:=by
 induction ha with
 |one=>exact .one
 |x hx=>exact h _ hx
 |m _ _ h1 h2=>exact .m h1 h2
 |i _ hb hh h1=>exact .i h1 hb hh
theorem Gen.mono(h:∀a,X a→Y a){a:α}(ha:Gen S m e X a):Gen S m e Y a:=ha.to fun _ h'=>.x (h _ h')
theorem Gen.pw{a:α}(ha:Gen S m e X a):∀k,Gen S m e X (pw m e a k)
 |0=>.one
 |k+1=>by rw[Pc.pw,wJ];exact .m (ha.pw k) ha
variable (g:Grp S m e)
 include g
theorem Gen.in(hX:∀a,X a→S a){a:α}(ha:Gen S m e X a):S a:=by
 induction ha with
 |one=>exact g.ein
 |x hx=>exact hX _ hx
 |m _ _ h1 h2=>exact g.cl h1 h2
 |i _ hb _ _=>exact hb
theorem Grp.inv_l{a b:α}(ha:S a)(hb:S b)(h:m a b=e):m b a=e:=by obtain⟨c,hc,h1,h2⟩:=g.invl ha;rw[show b=c from g.cancel_l ha hb hc (h.trans h1.symm)];exact h2
theorem Gen.left(hX:∀a,X a→S a){a b:α}(ha:S a)(hb:Gen S m e X b)(h:Gen S m e X (m a b)):Gen S m e X a:=by
 have hbs:=hb.in g hX;obtain⟨c,hc,h1,_⟩:=g.invl hbs;have:=Gen.m h (.i hb hc h1)
 rwa [g.assoc ha hbs hc,h1,g.oner ha]at this
theorem Gen.right(hX:∀a,X a→S a){a b:α}(ha:Gen S m e X a)(hb:S b)(h:Gen S m e X (m a b)):Gen S m e X b:=by
 have has:=ha.in g hX;obtain⟨c,hc,h1,h2⟩:=g.invl has;have:=Gen.m (.i ha hc h1) h
 rwa [←g.assoc hc has hb,h2,g.onel hb]at this
end
section
variable {α:Type}{S:α→Prop}{m:α→α→α}{e:α}{n:Nat}{o:Nat→Int}{co:α→Nat→Int} (F:Fil S m e n o co)
 include F
theorem Fil.dm{a b:α}{d:Nat}(hd:d≤n)(ha:S a)(hb:S b)(za:∀j,j<d→co a j=0)(zb:∀j,j<d→co b j=0):∀j,j<d→co (m a b) j=0:=fun j hj=>by have h:=(F.ad ha hb (by omega:j<n) fun i hi=>zb i (by omega)).2;rw[h,za j hj,zb j hj];simp
theorem Fil.md{x:Int}{d:Nat}(hd:d<n){a:α}(ha:S a)(h:co a d=x):x%o d=x:=by have:=F.r ha hd;rw[←h];exact K1 this.1 this.2
theorem Fil.pwc{t:α}{d:Nat}(hd:d<n)(ht:S t)(zt:∀j,j<d→co t j=0):∀k,(∀j,j<d→co (pw m e t k) j=0)∧co (pw m e t k) d=(k*co t d)%o d
 |0=>⟨fun j hj=>F.e0 (by omega),by rw[pw,iter,F.e0 hd];simp⟩
 |k+1=>by
  have ih:=Fil.pwc hd ht zt k;have hp:=xN F.g.toMon ht k;have e1:pw m e t (k+1)=m (pw m e t k) t:=by rw[pw,wJ];rfl
  have h:=F.ad hp ht hd zt;rw[e1];refine⟨fun j hj=>(h.1 j hj).trans (ih.1 j hj),?_⟩;rw[h.2,ih.2,Hx]
  congr 1
  rw[Int.natCast_succ,Jb2,Jb0]
theorem Fil.cmd{a b w:α}{k:Nat}(hk:k<n)(ha:S a)(hb:S b)(hw:S w)(za:∀j,j<k→co a j=0)(zb:∀j,j<k+1→co b j=0)(h:m (m b a) w=m a b∨m (m a b) w=m b a):∀j,j<k+1→co w j=0:=by
 have e1:∀j,j<k+1→co (m b a) j=co a j:=fun j hj=>by have h:=(F.ad hb ha (by omega:j<n) fun i hi=>za i (by omega)).2;rw[h,zb j hj,Hw];exact F.md (by omega) ha rfl
 have e2:∀j,j<k+1→co (m a b) j=co a j:=fun j hj=>by have h:=(F.ad ha hb (by omega:j<n) fun i hi=>zb i (by omega)).2;rw[h,zb j hj,Ln];exact F.md (by omega) ha rfl
 intro j
 induction j using Gb with
 |ind j ih=>
  intro hj;have fq:j<n:=by omega
  have hr:=F.r ha fq;have mb:=F.r hw fq;have key:(co a j+co w j)%o j=co a j:=by
   rcases h with h|h
   ·have h1:=(F.ad (F.g.cl hb ha) hw fq fun i hi=>ih i hi (by omega)).2
    rw[h,e2 j hj,e1 j hj]at h1;exact h1.symm
   ·have h1:=(F.ad (F.g.cl ha hb) hw fq fun i hi=>ih i hi (by omega)).2
    rw[h,e1 j hj,e2 j hj]at h1;exact h1.symm
  by_cases g:co a j+co w j<o j
  ·rw[K1 (by omega) g]at key;omega
  ·rw[←Ho,K1 (by omega) (by omega)]at key;omega
structure Tab (S:α→Prop) (n:Nat) (co:α→Nat→Int) (T:Nat→Option α):Prop where
 h:∀{k t},T k=aN t→k<n∧S t∧(∀j,j<k→co t j=0)∧co t k=1
def GX(n:Nat)(co:α→Nat→Int)(T:Nat→Option α)(Q:List α)(k:Nat)(a:α):Prop:=(∃j,k≤j∧T j=aN a)∨(a∈Q∧ ∀j,j<k→j<n→co a j=0)
 omit F in
theorem GX.s{T:Nat→Option α}{Q:List α}(hT:Tab S n co T)(hQ:∀a∈Q,S a){k:Nat}:∀a,GX n co T Q k a→S a
  |_,.inl ⟨_,_,h⟩=>(hT.h h).2.1
  |a,.inr h=>hQ a h.1
section
variable {T:Nat→Option α} (hT:Tab S n co T)
structure Clo (S:α→Prop) (m:α→α→α) (e:α) (n:Nat) (o:Nat→Int) (co:α→Nat→Int) (T:Nat→Option α) (Q:List α):Prop where
 p:∀{k t},T k=aN t→Gen S m e (GX n co T Q (k+1)) (pw m e t (o k).toNat)
 c:∀{k j t u},T k=aN t→T j=aN u→k<j→ ∃c,Gen S m e (GX n co T Q (k+1)) c∧m u t=m t c
variable (hC:Clo S m e n o co T [])
 include hT hC
theorem Clo.conj{k:Nat}{t:α}(ht:T k=aN t){y:α}(hy:Gen S m e (GX n co T [] (k+1)) y):∃c,Gen S m e (GX n co T [] (k+1)) c∧m y t=m t c:=by
 have e7:=(hT.h ht).2.1;have hG:∀{a},Gen S m e (GX n co T [] (k+1)) a→S a:=fun h=>h.in F.g (GX.s hT (by simp))
 induction hy with
 |one=>exact⟨e,.one,by rw[F.g.onel e7,F.g.oner e7]⟩
 |x hx=>
  rcases hx with⟨j,h1,h2⟩|⟨h,_⟩
  ·exact hC.c ht h2 (by omega)
  ·simp at h
 | @m a b ga gb ha hb=>
  obtain⟨c,c1,c2⟩:=ha;obtain⟨d,d1,d2⟩:=hb;refine⟨m c d,.m c1 d1,?_⟩;rw[F.g.assoc (hG ga) (hG gb) e7,d2,←F.g.assoc (hG ga) e7 (hG d1),c2,F.g.assoc e7 (hG c1) (hG d1)]
 | @i a b ga hb hh ha=>
  obtain⟨c,c1,c2⟩:=ha;obtain⟨d,d1,d2,_⟩:=F.g.invl (hG c1);have hl:=F.g.inv_l (hG ga) hb hh;refine⟨d,.i c1 d1 d2,F.g.cancel_l (hG ga) (F.g.cl hb e7) (F.g.cl e7 d1) ?_⟩;rw[←F.g.assoc (hG ga) hb e7,hh,F.g.onel e7,←F.g.assoc (hG ga) e7 d1,c2,F.g.assoc e7 (hG c1) d1,d2,F.g.oner e7]
theorem Clo.conjs{k:Nat}{t:α}(ht:T k=aN t):∀(a:Nat){y:α},Gen S m e (GX n co T [] (k+1)) y→ ∃c,Gen S m e (GX n co T [] (k+1)) c∧m y (pw m e t a)=m (pw m e t a) c
 |0,y,hy=>⟨y,hy,by have:=hy.in F.g (GX.s hT (by simp));show m y e=m e y;rw[F.g.onel this,F.g.oner this]⟩
 |a+1,y,hy=>by
  have hG:∀{a},Gen S m e (GX n co T [] (k+1)) a→S a:=fun h=>h.in F.g (GX.s hT (by simp))
  have e7:=(hT.h ht).2.1;obtain⟨c,c1,c2⟩:=Clo.conjs ht a hy;obtain⟨d,d1,d2⟩:=Clo.conj F hT hC ht c1;have hp:=xN F.g.toMon e7 a;refine⟨d,d1,?_⟩;rw[show pw m e t (a+1)=m (pw m e t a) t from by rw[pw,wJ];rfl,←F.g.assoc (hG hy) hp e7,c2,F.g.assoc hp (hG c1) e7,d2,F.g.assoc hp e7 (hG d1)]
theorem Clo.pws{k:Nat}{t:α}(ht:T k=aN t):∀N:Nat,Gen S m e (GX n co T [] (k+1)) (pw m e t (N*(o k).toNat))
 |0=>by rw[Nat.zero_mul];exact .one
 |N+1=>by rw[Kz,jF F.g.toMon (hT.h ht).2.1];exact .m (Clo.pws ht N) (hC.p ht)
theorem Clo.form{k:Nat}{t:α}(ht:T k=aN t){x:α}(hx:Gen S m e (GX n co T [] k) x):∃(a:Nat)(y:α),Gen S m e (GX n co T [] (k+1)) y∧x=m (pw m e t a) y:=by
 have e7:=(hT.h ht).2.1;have hG:∀{j a},Gen S m e (GX n co T [] j) a→S a:=fun h=>h.in F.g (GX.s hT (by simp))
 have hP:=fun a=>xN F.g.toMon e7 a
 induction hx with
 |one=>exact⟨0,e,.one,(F.g.onel F.g.ein).symm⟩
 | @x a hx=>
  rcases hx with⟨j,h1,h2⟩|⟨h,_⟩
  ·by_cases hj:j=k
   ·subst hj
    rw[ht]at h2;cases h2;exact⟨1,e,.one,by rw[zG0 F.g.toMon e7,F.g.oner e7]⟩
   ·exact⟨0,a,.x (.inl ⟨j,by omega,h2⟩),(F.g.onel (hT.h h2).2.1).symm⟩
  ·simp at h
 | @m a b _ _ ha hb=>
  obtain⟨i,y,hy,rfl⟩:=ha;obtain⟨j,z,hz,rfl⟩:=hb;obtain⟨c,c1,c2⟩:=Clo.conjs F hT hC ht j hy;refine⟨i+j,m c z,.m c1 hz,?_⟩;rw[jF F.g.toMon e7,F.g.assoc (hP i) (hG hy) (F.g.cl (hP j) (hG hz)),←F.g.assoc (hG hy) (hP j) (hG hz),c2,F.g.assoc (hP j) (hG c1) (hG hz),F.g.assoc (hP i) (hP j) (F.g.cl (hG c1) (hG hz))]
 | @i a b ga hb hh ha=>
  obtain⟨i,y,hy,rfl⟩:=ha;obtain⟨y',y1,y2,_⟩:=F.g.invl (hG hy);have ho:1≤(o k).toNat:=by have:=F.r e7 (hT.h ht).1;omega
  have fp:i≤i*(o k).toNat:=Nat.le_mul_of_pos_right i ho;have e1:i*(o k).toNat=i+(i*(o k).toNat-i):=by omega
  have hw:=Clo.pws F hT hC ht i;obtain⟨w,w1,w2,_⟩:=F.g.invl (hG hw);obtain⟨c,c1,c2⟩:=Clo.conjs F hT hC ht (i*(o k).toNat-i) (.i hy y1 y2);refine⟨i*(o k).toNat-i,m c w,.m c1 (.i hw w1 w2),?_⟩;refine F.g.cancel_l (F.g.cl (hP i) (hG hy)) hb (F.g.cl (hP _) (F.g.cl (hG c1) w1)) ?_;rw[hh,←F.g.assoc (hP _) (hG c1) w1,←c2,F.g.assoc y1 (hP _) w1,F.g.assoc (hP i) (hG hy) (F.g.cl y1 (F.g.cl (hP _) w1)),←F.g.assoc (hG hy) y1 (F.g.cl (hP _) w1),y2,F.g.onel (F.g.cl (hP _) w1),←F.g.assoc (hP i) (hP _) w1,←jF F.g.toMon e7,←e1,w2]
theorem Clo.depth:∀(l k:Nat),k+l=n→ ∀{x:α},Gen S m e (GX n co T [] k) x→(∀j,j<k→co x j=0)→x≠e→ ∃j,k≤j∧j<n∧(T j).isSome=aP∧(∀i,i<j→co x i=0)∧co x j≠0
 |0,k,hk,x,hx,hz,gj=>by
  have hG:∀{j a},Gen S m e (GX n co T [] j) a→S a:=fun h=>h.in F.g (GX.s hT (by simp))
  exact absurd (F.ex (hG hx) F.g.ein fun d hd=>by rw[hz d (by omega),F.e0 hd]) gj
 |l+1,k,hk,x,hx,hz,gj=>by
  have hG:∀{j a},Gen S m e (GX n co T [] j) a→S a:=fun h=>h.in F.g (GX.s hT (by simp))
  have bL:k<n:=by omega
  have deep:∀{y},Gen S m e (GX n co T [] (k+1)) y→ ∀j,j<k+1→co y j=0:=fun{y} hy=>by
   induction hy with
   |one=>exact fun j hj=>F.e0 (by omega)
   |x hx=>
    rcases hx with⟨j,h1,h2⟩|⟨h,_⟩
    ·exact fun i hi=>(hT.h h2).2.2.1 i (by omega)
    ·simp at h
   |m ga gb ha hb=>exact F.dm (by omega) (hG ga) (hG gb) ha hb
   | @i a b ga hb hh ha=>
    intro j
    induction j using Gb with
    |ind j ih=>
     intro hj;have h1:=(F.ad (hG ga) hb (by omega:j<n) fun i hi=>ih i hi (by omega)).2;rw[hh,F.e0 (by omega),ha j hj,Hw]at h1;rw[←F.md (by omega) hb rfl];exact h1.symm
  have next:Gen S m e (GX n co T [] (k+1)) x→ ∃j,k≤j∧j<n∧(T j).isSome=aP∧(∀i,i<j→co x i=0)∧co x j≠0:=fun h=>by obtain⟨j,j1,j2⟩:=Clo.depth l (k+1) (by omega) h (deep h) gj;exact⟨j,by omega,j2⟩
  cases ht:T k with
  |none=>
   refine next (hx.mono fun a ha=>?_);rcases ha with⟨j,h1,h2⟩|⟨h,_⟩
   ·by_cases hj:j=k
    ·subst hj;rw[ht]at h2;cases h2
    ·exact .inl ⟨j,by omega,h2⟩
   ·simp at h
  |some t=>
   by_cases h0:co x k=0
   ·obtain⟨a,y,hy,rfl⟩:=Clo.form F hT hC ht hx
    have mM:=hT.h ht;have hp:=F.pwc bL mM.2.1 mM.2.2.1 a;have h1:=(F.ad (xN F.g.toMon mM.2.1 a) (hG hy) bL fun j hj=>deep hy j (by omega)).2;rw[h0,deep hy k (by omega),hp.2,mM.2.2.2,Ln,Hd,Gt]at h1;have ho:=F.r mM.2.1 bL;have hd:(o k).toNat∣a:=by have:=U0 h1.symm;rw[show o k=((o k).toNat:Int)from by omega]at this;exact Int.natCast_dvd_natCast.1 this
    obtain⟨N,rfl⟩:=hd;rw[Nat.mul_comm]at next ⊢
    exact next (.m (Clo.pws F hT hC ht N) hy)
   ·exact⟨k,Ji _,bL,by rw[ht];rfl,hz,h0⟩
end
structure Can (S:α→Prop) (n:Nat) (co:α→Nat→Int) (H:α→Prop) (C:Nat→Option α):Prop where
 i:∀{k t},C k=aN t→k<n∧H t∧S t∧(∀j,j<k→co t j=0)∧co t k=1∧ ∀j,k<j→j<n→(C j).isSome=aP→co t j=0
 d:∀{x},H x→x≠e→ ∃j,j<n∧(C j).isSome=aP∧(∀i,i<j→co x i=0)∧co x j≠0
theorem Can.uniq{H:α→Prop}(hm:∀{a b},H a→H b→H (m a b))(hi:∀{a b},H a→S b→m a b=e→H b){C D:Nat→Option α}(hC:Can (e:=e) S n co H C)(hD:Can (e:=e) S n co H D):∀k,C k=D k:=by
 have pX:∀{C D:Nat→Option α},Can (e:=e) S n co H C→Can (e:=e) S n co H D→ ∀k,(C k).isSome=aP→(D k).isSome=aP:=fun{C D} hC hD k hk=>by
  obtain⟨t,ht⟩:=Gf.1 hk;obtain⟨a1,a2,a3,a4,a5,_⟩:=hC.i ht;obtain⟨j,j1,j2,j3,j4⟩:=hD.d a2 fun h=>by rw[h,F.e0 a1]at a5;cases a5
  rcases Jar j k with h|h|h
  ·exact absurd (a4 j h) j4
  ·rwa [←h]
  ·have:=j3 k h;omega
 intro k;cases hc:C k with
 |none=>
  cases hd:D k with
  |none=>rfl
  |some u=>
   have:=pX hD hC k (by rw[hd];rfl);rw[hc]at this;cases this
 |some t=>
  cases hd:D k with
  |none=>
   have:=pX hC hD k (by rw[hc];rfl);rw[hd]at this;cases this
  |some u=>
   obtain⟨a1,a2,a3,a4,a5,a6⟩:=hC.i hc;obtain⟨_,b2,b3,b4,b5,b6⟩:=hD.i hd;obtain⟨t',t1,t2,t3⟩:=F.g.invl a3;have hh:H (m t' u):=hm (hi a2 t1 t2) b2;have hhs:S (m t' u):=F.g.cl t1 b3;have e1:m t (m t' u)=u:=by rw[←F.g.assoc a3 t1 b3,t2,F.g.onel b3]
   have same:∀j,j<n→(C j).isSome=aP→co t j=co u j:=fun j hj pU=>by
    rcases Jar j k with h|h|h
    ·rw[a4 j h,b4 j h]
    ·rw[h,a5,b5]
    ·rw[a6 j h hj pU,b6 j h hj (pX hC hD j pU)]
   have hz:m t' u=e:=by
    refine Classical.byContradiction fun gj=>?_
    obtain⟨j,j1,j2,j3,j4⟩:=hC.d hh gj;have h1:=(F.ad a3 hhs j1 j3).2;rw[e1,←same j j1 j2]at h1;have r1:=F.r a3 j1;have r2:=F.r hhs j1
    by_cases g:co t j+co (m t' u) j<o j
    ·rw[K1 (by omega) g]at h1;omega
    ·rw[←Ho,K1 (by omega) (by omega)]at h1;omega
   rw[hz,F.g.oner a3]at e1;rw[e1]
end
end Go.Pc

namespace Go.Pc
section
variable {α:Type}{S:α→Prop}{m:α→α→α}{e:α}{n:Nat}{o:Nat→Int}{co:α→Nat→Int}
def Dp(n:Nat)(co:α→Nat→Int)(k:Nat)(a:α):Prop:=∀j,j<k→j<n→co a j=0
theorem Gen.tr{T T':Nat→Option α}{Q Q':List α}{k:Nat}(hT:∀k t,T k=aN t→T' k=aN t)(hq:∀a∈Q,∀k,Dp n co k a→Gen S m e (GX n co T' Q' k) a){a:α}(h:Gen S m e (GX n co T Q k) a):Gen S m e (GX n co T' Q' k) a:=
 h.to fun a ha=>by
  rcases ha with⟨j,h1,h2⟩|⟨h1,h2⟩
  ·exact .x (.inl ⟨j,h1,hT _ _ h2⟩)
  ·exact hq a h1 k h2
structure Wl (S:α→Prop) (m:α→α→α) (e:α) (n:Nat) (o:Nat→Int) (co:α→Nat→Int) (L:α→Prop) (T:Nat→Option α) (Q:List α):Prop where
 t:Tab S n co T
 th:∀{k t},T k=aN t→Gen S m e L t
 q:∀a∈Q,S a∧Gen S m e L a
 g:∀a,L a→Gen S m e (GX n co T Q 0) a
 c:Clo S m e n o co T Q
theorem Wl.start(L:List α)(hL:∀a∈L,S a):Wl S m e n o co (· ∈L) (fun _=>aO) L:=
 ⟨⟨fun h=>by cases h⟩,(fun h=>by cases h),(fun a h=>⟨hL a h,.x h⟩),(fun a h=>.x (.inr ⟨h,fun j hj=>by omega⟩)),⟨(fun h=>by cases h),(fun h=>by cases h)⟩⟩
theorem Wl.more{L:α→Prop}{T:Nat→Option α}(h:Wl S m e n o co L T []){M:List α}(hM:∀a∈M,S a):Wl S m e n o co (fun a=>L a∨a∈M) T M:=by
 have tr:∀{k a},Gen S m e (GX n co T [] k) a→Gen S m e (GX n co T M k) a:=fun g=>g.tr (fun _ _ h=>h) (by simp)
 refine⟨h.t,fun ht=>(h.th ht).mono fun _ h=>.inl h,fun a ha=>⟨hM a ha,.x (.inr ha)⟩,fun a ha=>?_,fun ht=>tr (h.c.p ht),fun h1 h2 h3=>?_⟩
 ·rcases ha with ha|ha
  ·exact tr (h.g a ha)
  ·exact .x (.inr ⟨ha,fun j hj=>by omega⟩)
 ·obtain⟨c,c1,c2⟩:=h.c.c h1 h2 h3
  exact⟨c,tr c1,c2⟩
theorem Wl.drop{L:α→Prop}{T:Nat→Option α}{Q Q':List α}(h:Wl S m e n o co L T Q){x:α}(hx:∀k,Dp n co k x→Gen S m e (GX n co T Q' k) x)(h1:∀a∈Q',a∈Q)(h2:∀a∈Q,a=x∨a∈Q'):Wl S m e n o co L T Q':=by
 have tr:∀{k a},Gen S m e (GX n co T Q k) a→Gen S m e (GX n co T Q' k) a:=fun g=>g.tr (fun _ _ h=>h) fun a ha k hk=>by
  rcases h2 a ha with rfl|h
  ·exact hx k hk
  ·exact .x (.inr ⟨h,hk⟩)
 exact⟨h.t,h.th,fun a ha=>h.q a (h1 a ha),fun a ha=>tr (h.g a ha),⟨fun ht=>tr (h.c.p ht),fun a b c=>by obtain⟨w,w1,w2⟩:=h.c.c a b c;exact⟨w,tr w1,w2⟩⟩⟩
variable (F:Fil S m e n o co)
 include F
theorem Wl.add{L:α→Prop}{T:Nat→Option α}{Q Q':List α}(h:Wl S m e n o co L T Q){x y:α}{d:Nat}(hd:d<n)(hTd:T d=aO)(hy:S y)(fE:Gen S m e L y)(zy:∀j,j<d→co y j=0)(oy:co y d=1)
  (hx:∀k,Dp n co k x→Gen S m e (GX n co (fun j=>if j=d then aN y else T j) Q' k) x)(hq:∀a∈Q',S a∧Gen S m e L a)(h2:∀a∈Q,a=x∨a∈Q')
  (hp:pw m e y (o d).toNat∈Q')(hc:∀k u,T k=aN u→ ∃w,w∈Q'∧(m (m u y) w=m y u∨m (m y u) w=m u y)):Wl S m e n o co L (fun j=>if j=d then aN y else T j) Q':=by
 have hT:∀k t,T k=aN t→(fun j=>if j=d then aN y else T j) k=aN t:=fun k t hk=>by
  show(if k=d then aN y else T k)=aN t;rw[if_neg]
  ·exact hk
  ·intro g;rw[g,hTd]at hk;cases hk
 have cH:Tab S n co (fun j=>if j=d then aN y else T j):=⟨fun{k t} hk=>by
  replace hk:(if k=d then aN y else T k)=aN t:=hk
  split at hk
  ·rename_i g;cases hk;subst g;exact⟨hd,hy,zy,oy⟩
  ·exact h.t.h hk⟩
 have hS:∀{k a},Gen S m e (GX n co (fun j=>if j=d then aN y else T j) Q' k) a→S a:=fun g=>g.in F.g (GX.s cH fun a ha=>(hq a ha).1)
 have tr:∀{k a},Gen S m e (GX n co T Q k) a→Gen S m e (GX n co (fun j=>if j=d then aN y else T j) Q' k) a:=fun g=>g.tr hT fun a ha k hk=>by
  rcases h2 a ha with rfl|h
  ·exact hx k hk
  ·exact .x (.inr ⟨h,hk⟩)
 have new:∀{k j t u w},k<n→S t→S u→(∀i,i<k→co t i=0)→(∀i,i<j→co u i=0)→k<j→(fun i=>if i=d then aN y else T i) j=aN u→w∈Q'→(m (m u t) w=m t u∨m (m t u) w=m u t)→ ∃c,Gen S m e (GX n co (fun j=>if j=d then aN y else T j) Q' (k+1)) c∧m u t=m t c:=fun{k j t u w} hk ht hu zt zu pM hju hw hh=>by
  have bB:=(hq w hw).1;have pS:=F.cmd hk ht hu bB zt (fun i hi=>zu i (by omega)) hh;have g1:Gen S m e (GX n co (fun j=>if j=d then aN y else T j) Q' (k+1)) w:=.x (.inr ⟨hw,fun i hi _=>pS i hi⟩);have g2:Gen S m e (GX n co (fun j=>if j=d then aN y else T j) Q' (k+1)) u:=.x (.inl ⟨j,pM,hju⟩);rcases hh with hh|hh
  ·obtain⟨v,v1,v2,_⟩:=F.g.invl bB
   refine⟨m u v,.m g2 (.i g1 v1 v2),?_⟩;rw[←F.g.assoc ht hu v1,←hh,F.g.assoc (F.g.cl hu ht) bB v1,v2,F.g.oner (F.g.cl hu ht)]
  ·exact⟨m u w,.m g2 g1,by rw[←F.g.assoc ht hu bB,hh]⟩
 refine⟨cH,fun{k t} hk=>?_,hq,fun a ha=>tr (h.g a ha),fun{k t} hk=>?_,fun{k j t u} hk hj pM=>?_⟩
 ·replace hk:(if k=d then aN y else T k)=aN t:=hk
  split at hk
  ·cases hk;exact fE
  ·exact h.th hk
 ·replace hk:(if k=d then aN y else T k)=aN t:=hk
  split at hk
  ·rename_i g
   cases hk;subst g;have hpc:=F.pwc hd hy zy (o k).toNat;have ho:=F.r hy hd;refine .x (.inr ⟨hp,fun i hi gV=>?_⟩)
   by_cases g:i=k
   ·rw[g,hpc.2,oy,Hd,show(((o k).toNat:Nat):Int)=o k from by omega,Uu]
   ·exact hpc.1 i (by omega)
  ·exact tr (h.c.p hk)
 ·have a1:=cH.h hk
  have a2:=cH.h hj;have bN:(if k=d then aN y else T k)=aN t:=hk;have ft:(if j=d then aN y else T j)=aN u:=hj;split at bN
  ·rename_i g
   cases bN;subst g;rw[if_neg (by omega)]at ft;obtain⟨w,w1,w2⟩:=hc j u ft;exact new hd hy a2.2.1 zy a2.2.2.1 pM hj w1 w2
  ·split at ft
   ·rename_i g2
    cases ft;subst g2;obtain⟨w,w1,w2⟩:=hc k t bN;exact new a1.1 a1.2.1 hy a1.2.2.1 zy pM hj w1 w2.symm
   ·obtain⟨c,c1,c2⟩:=h.c.c bN ft pM
    exact⟨c,tr c1,c2⟩
structure Sf (S:α→Prop) (m:α→α→α) (e:α) (n:Nat) (co:α→Nat→Int) (T:Nat→Option α) (x y:α):Prop where
 s:S y
 d:∀k,Dp n co k x→Dp n co k y
 g:∀k Q,(∀a∈Q,S a)→Dp n co k x→Gen S m e (GX n co T Q k) y→Gen S m e (GX n co T Q k) x
 h:∀H:α→Prop,(∀a,H a→S a)→(∀{k t},T k=aN t→Gen S m e H t)→Gen S m e H x→Gen S m e H y
 omit F in
theorem Sf.refl{T:Nat→Option α}{x:α}(hx:S x):Sf S m e n co T x x:=⟨hx,fun _ h=>h,fun _ _ _ _ h=>h,fun _ _ _ h=>h⟩
 omit F in
theorem Sf.trans{T:Nat→Option α}{x y z:α}(h1:Sf S m e n co T x y)(h2:Sf S m e n co T y z):Sf S m e n co T x z:=
  ⟨h2.s,fun k h=>h2.d k (h1.d k h),fun k Q hQ h g=>h1.g k Q hQ h (h2.g k Q hQ (h1.d k h) g),fun H hS hT g=>h2.h H hS hT (h1.h H hS hT g)⟩
theorem Sf.right{T:Nat→Option α}(hT:Tab S n co T){x t z:α}{d:Nat}(hd:d<n)(hx:S x)(zx:∀j,j<d→co x j=0)(nx:co x d≠0)(ht:T d=aN t)(hz:∀{Y:α→Prop},(∀a,Y a→S a)→Gen S m e Y t→Gen S m e Y z)(m9:S z)(zz:∀j,j<d→co z j=0)(hr:co (m x z) d=0):Sf S m e n co T x (m x z)∧ ∀j,j<d+1→co (m x z) j=0:=by
 have bP:=F.dm (by omega) hx m9 zx zz;have pS:∀j,j<d+1→co (m x z) j=0:=fun j hj=>by
  by_cases g:j=d
  ·rw[g];exact hr
  ·exact bP j (by omega)
 have hk:∀k,Dp n co k x→k≤d:=fun k h=>by
  by_cases g:k≤d
  ·exact g
  ·exact absurd (h d (by omega) hd) nx
 refine⟨⟨F.g.cl hx m9,fun k h=>fun j hj _=>pS j (by have:=hk k h;omega),fun k Q hQ h g=>?_,fun H hS hT' g=>.m g (hz hS (hT' ht))⟩,pS⟩;exact Gen.left F.g (GX.s hT hQ) hx (hz (GX.s hT hQ) (.x (.inl ⟨d,hk k h,ht⟩))) g
theorem Sf.left{T:Nat→Option α}(hT:Tab S n co T){x t z:α}{d:Nat}(hd:d<n)(hx:S x)(zx:∀j,j<d→co x j=0)(nx:co x d≠0)(ht:T d=aN t)(hz:∀{Y:α→Prop},(∀a,Y a→S a)→Gen S m e Y t→Gen S m e Y z)(m9:S z)(zz:∀j,j<d→co z j=0)(hr:co (m z x) d=0):Sf S m e n co T x (m z x)∧ ∀j,j<d+1→co (m z x) j=0:=by
 have bP:=F.dm (by omega) m9 hx zz zx;have pS:∀j,j<d+1→co (m z x) j=0:=fun j hj=>by
  by_cases g:j=d
  ·rw[g];exact hr
  ·exact bP j (by omega)
 have hk:∀k,Dp n co k x→k≤d:=fun k h=>by
  by_cases g:k≤d
  ·exact g
  ·exact absurd (h d (by omega) hd) nx
 refine⟨⟨F.g.cl m9 hx,fun k h=>fun j hj _=>pS j (by have:=hk k h;omega),fun k Q hQ h g=>?_,fun H hS hT' g=>.m (hz hS (hT' ht)) g⟩,pS⟩;exact Gen.right F.g (GX.s hT hQ) (hz (GX.s hT hQ) (.x (.inl ⟨d,hk k h,ht⟩))) hx g
theorem Wl.can{L:α→Prop}{T:Nat→Option α}(h:Wl S m e n o co L T []){C:Nat→Option α}(h1:∀k,(C k).isSome=(T k).isSome)
  (h2:∀{k t},C k=aN t→Gen S m e L t∧S t∧(∀j,j<k→co t j=0)∧co t k=1∧ ∀j,k<j→j<n→(C j).isSome=aP→co t j=0):Can (e:=e) S n co (Gen S m e L) C:=by
 refine⟨fun{k t} hk=>⟨?_,h2 hk⟩,fun{x} hx gj=>?_⟩
 ·have:=h1 k
  rw[hk]at this;obtain⟨u,hu⟩:=Gf.1 this.symm;exact(h.t.h hu).1
 ·obtain⟨j,_,j2,j3,j4⟩:=Clo.depth F h.t h.c n 0 (by omega) (hx.to h.g) (fun j hj=>by omega) gj
  exact⟨j,j2,by rw[h1];exact j3,j4⟩
end
end Go.Pc

namespace Go.Pc
def cd(v:Vec)(j:Nat):Int:=v.getD j 0
def od(P:Pcp)(j:Nat):Int:=match P[j]? with
 |some l=>l.o
 |none=>1
theorem zPe(l:Lvl)(P:Pcp):od (l::P) 0=l.o:=rfl
theorem zJX(l:Lvl)(P:Pcp)(j:Nat):od (l::P) (j+1)=od P j:=by simp[od]
theorem zTg:∀{P:Pcp}{v:Vec},V P v→ ∀{d:Nat},d<P.length→0≤cd v d∧cd v d<od P d
 | [],_,_,d,hd=>by simp at hd
 |l::P,[],h,_,_=>by simp[V]at h
 |l::P,a::x,h,0,_=>by simp only[V]at h;exact h.1
 |l::P,a::x,h,d+1,hd=>by simp only[V]at h;rw[zJX];exact zTg h.2 (by simpa using hd)
theorem zQo:∀{P:Pcp}{a b:Vec},V P a→V P b→(∀d,d<P.length→cd a d=cd b d)→a=b
 | [],a,b,ha,hb,_=>by simp only[V]at ha hb;rw[ha,hb]
 |l::P,[],_,h,_,_=>by simp[V]at h
 |l::P,_::_,[],_,h,_=>by simp[V]at h
 |l::P,a::x,b::y,ha,hb,h=>by simp only[V]at ha hb;have h0:a=b:=h 0 (by simp);rw[h0,zQo ha.2 hb.2 fun d hd=>h (d+1) (by simpa using hd)]
theorem zQp:∀{P:Pcp}{x y:Vec},V P x→V P y→ ∀{d:Nat},d<P.length→(∀j,j<d→cd y j=0)→(∀j,j<d→cd (mul P x y) j=cd x j)∧cd (mul P x y) d=(cd x d+cd y d)%od P d
 | [],_,_,_,_,d,hd,_=>by simp at hd
 |l::P,[],_,h,_,_,_,_=>by simp[V]at h
 |l::P,_::_,[],_,h,_,_,_=>by simp[V]at h
 |l::P,a::x,b::y,hx,hy,0,_,_=>by
  simp only[V]at hx hy;refine⟨fun j hj=>by omega,?_⟩;rw[yG,zPe];show cd _ 0=(a+b)%l.o
  by_cases g:a+b≥l.o
  ·rw[if_pos g,←Ho,K1 (by omega) (by omega)];rfl
  ·rw[if_neg g,K1 (by omega) (by omega)];rfl
 |l::P,a::x,b::y,hx,hy,d+1,hd,hz=>by
  simp only[V]at hx hy;have hb:b=0:=hz 0 (by omega);subst hb;have ih:=zQp hx.2 hy.2 (d:=d) (by simpa using hd) fun j hj=>hz (j+1) (by omega)
  rw[yG,if_neg (by omega),zJX];show(∀j,j<d+1→cd ((a+0)::mul P x y) j=cd (a::x) j)∧_;rw[Ln];refine⟨fun j hj=>?_,ih.2⟩;cases j with
  |zero=>rfl
  |succ j=>exact ih.1 j (by omega)
theorem zM6{n d:Nat}:cd (zeros n) d=0:=by unfold cd zeros;rw[J4,Js];split<;>rfl
theorem fil{P:Pcp}(h:Ok P)(hc:wK P):Fil (V P) (mul P) (zeros P.length) P.length (od P) cd:=
 ⟨zH4 P h hc,fun ha hd=>zTg ha hd,fun _=>zM6,fun ha hb h=>zQo ha hb h,fun ha hb hd hz=>zQp ha hb hd hz⟩
end Go.Pc

namespace Go.Pc
section
variable {α:Type}{S:α→Prop}{m:α→α→α}{e:α}{n:Nat}{o:Nat→Int}{co:α→Nat→Int} (F:Fil S m e n o co)
 include F
theorem Fil.pw1{t:α}{d:Nat}(hd:d<n)(ht:S t)(zt:∀j,j<d→co t j=0)(h1:co t d=1)(k:Nat):S (pw m e t k)∧(∀j,j<d→co (pw m e t k) j=0)∧co (pw m e t k) d=k%o d:=by have h:=F.pwc hd ht zt k;rw[h1,Hd]at h;exact⟨xN F.g.toMon ht k,h⟩
theorem Fil.killl{t x:α}{d:Nat}(hd:d<n)(ht:S t)(zt:∀j,j<d→co t j=0)(h1:co t d=1)(hx:S x)(zx:∀j,j<d→co x j=0):co (m (pw m e t (o d-co x d).toNat) x) d=0:=by have hr:=F.r hx hd;obtain⟨p1,p2,p3⟩:=F.pw1 hd ht zt h1 (o d-co x d).toNat;rw[(F.ad p1 hx hd zx).2,p3,Hx,show(((o d-co x d).toNat:Nat):Int)=o d-co x d from by omega,show o d-co x d+co x d=o d from by omega,Uu]
theorem Fil.invc{t u:α}{d:Nat}(hd:d<n)(ht:S t)(hu:S u)(h:m t u=e)(zt:∀j,j<d→co t j=0):(∀j,j<d→co u j=0)∧(co t d+co u d)%o d=0:=by
 have z:∀j,j<d→co u j=0:=by
  intro j
  induction j using Gb with
  |ind j ih=>
   intro hj;have h1:=(F.ad ht hu (by omega:j<n) fun i hi=>ih i hi (by omega)).2;rw[h,F.e0 (by omega),zt j hj,Hw]at h1;rw[←F.md (by omega) hu rfl];exact h1.symm
 refine⟨z,?_⟩;have h1:=(F.ad ht hu hd z).2;rw[h,F.e0 hd]at h1;exact h1.symm
theorem Fil.killr{t u x:α}{d:Nat}(hd:d<n)(ht:S t)(hu:S u)(h:m t u=e)(zt:∀j,j<d→co t j=0)(h1:co t d=1)(hx:S x):S (pw m e u (co x d).toNat)∧(∀j,j<d→co (pw m e u (co x d).toNat) j=0)∧co (m x (pw m e u (co x d).toNat)) d=0:=by
 have hr:=F.r hx hd;obtain⟨z,c⟩:=F.invc hd ht hu h zt;have hp:=F.pwc hd hu z (co x d).toNat;have hs:=xN F.g.toMon hu (co x d).toNat;refine⟨hs,hp.1,?_⟩;rw[(F.ad hx hs hd hp.1).2,hp.2,Int.add_emod_emod,show(((co x d).toNat:Nat):Int)=co x d from by omega];have e1:co x d+co x d*co u d=co x d*(co t d+co u d):=by rw[h1,Jb1,Hd]
 rw[e1,H3,c,Jas,Int.zero_emod]
structure Rd (S:α→Prop) (m:α→α→α) (e:α) (n:Nat) (co:α→Nat→Int) (L:α→Prop) (C:Nat→Option α) (k j:Nat) (x:α):Prop where
 s:S x
 l:Gen S m e L x
 z:∀i,i<k→co x i=0
 o:co x k=1
 r:∀i,k<i→i<j→(C i).isSome=aP→co x i=0
theorem Rd.step{L:α→Prop}{C:Nat→Option α}{k j:Nat}{x z:α}(h:Rd S m e n co L C k j x)(pM:k<j)(hj:j<n)(hz:S z)(hl:Gen S m e L z)(zz:∀i,i<j→co z i=0)(hk:co (m x z) j=0):Rd S m e n co L C k (j+1) (m x z):=by
 have h1:=(F.ad h.s hz hj zz).1;refine⟨F.g.cl h.s hz,.m h.l hl,fun i hi=>?_,?_,fun i hi hij hc=>?_⟩
 ·rw[h1 i (by omega)];exact h.z i hi
 ·rw[h1 k pM];exact h.o
 ·by_cases g:i=j
  ·rw[g];exact hk
  ·rw[h1 i (by omega)];exact h.r i hi (by omega) hc
 omit F in
theorem Rd.skip{L:α→Prop}{C:Nat→Option α}{k j:Nat}{x:α}(h:Rd S m e n co L C k j x)(hc:C j=aO∨co x j=0):Rd S m e n co L C k (j+1) x:=
  ⟨h.s,h.l,h.z,h.o,fun i hi hij pO=>by
    by_cases g:i=j
    · subst g
      rcases hc with hc|hc
      ·rw[hc]at pO;cases pO
      ·exact hc
    ·exact h.r i hi (by omega) pO⟩
end
end Go.Pc

namespace Go.Pl
open Go Go.Ab
theorem bs{α β:Type}(x:α)(f:α→Option β):(aN x).bind f=f x:=by simp only[Option.bind_some]
theorem zH{α:Type}(x y:α):cond aP x y=x:=by simp only[cond_true]
theorem zI{α:Type}(x y:α):cond aQ x y=y:=by simp only[cond_false]
theorem zC{n:Int}(h1:-9223372036854775808≤n)(h2:n≤9223372036854775807):rng n=aN n:=by unfold rng;rw[if_pos];simp only[inR,J2,decide_eq_true_eq];omega
theorem wG{α:Type}(xs:List α)(i:Nat):ixO xs (i:Int)=xs[i]?:=by unfold ixO;rw[if_pos (by omega)];simp
theorem qY{α:Type}{xs:List α}{i:Nat}(h:i<xs.length):ixO xs (i:Int)=aN xs[i]:=by rw[wG];exact J5 h
theorem yO{n:Nat}(h:n≤68719476736):yT (n:Int)=aN n:=by unfold yT;rw[if_pos (by omega)];simp
theorem xD{α:Type}{xs ys:List α}(h:xs.length+ys.length≤68719476736):xR xs ys=aN (xs++ys):=by unfold xR;rw[if_pos h]
theorem zQ{σ ρ:Type}{body:σ→Option (σ⊕ρ)}{r:ρ}(S:Nat→σ)(n:Nat)(h:∀i,i<n→body (S i)=aN (.inl (S (i+1))))(he:body (S n)=aN (.inr r)):zG body (S 0)=aN r:=by
 have key:∀k i,i+k=n→zG body (S i)=aN r:=by
  intro k
  induction k with
  |zero=>intro i hi;rw[yU,show i=n from by omega,he]
  |succ k ih=>intro i hi;rw[yU,h i (by omega)];exact ih (i+1) (by omega)
 exact key n 0 (by omega)
theorem vL{σ ρ:Type}{body:σ→Option (σ⊕ρ)}{Q:ρ→Prop}(I:Nat→σ→Prop)(n:Nat)(h:∀i s,i<n→I i s→(∃s',body s=aN (.inl s')∧I (i+1) s')∨ ∃r,body s=aN (.inr r)∧Q r)
  (he:∀s,I n s→ ∃r,body s=aN (.inr r)∧Q r){s:σ}(h0:I 0 s):∃r,zG body s=aN r∧Q r:=by
 have key:∀k i s,i+k=n→I i s→ ∃r,zG body s=aN r∧Q r:=by
  intro k
  induction k with
  |zero=>
   intro i s hi hs;obtain rfl:i=n:=by omega
   obtain⟨r,h1,h2⟩:=he s hs;exact⟨r,by rw[yU,h1],h2⟩
  |succ k ih=>
   intro i s hi hs;rcases h i s (by omega) hs with⟨s',h1,h2⟩|⟨r,h1,h2⟩
   ·rw[yU,h1];exact ih (i+1) s' (by omega) h2
   ·exact⟨r,by rw[yU,h1],h2⟩
 exact key n 0 s (by omega) h0
def zJY{ρ:Type}:Option ρ→Unit⊕ρ
 |none=>.inl ()
 |some r=>.inr r
theorem cs(i:Nat):(i:Int)+1=((i+1:Nat):Int):=by omega
theorem zKH{ρ:Type}{body:Int→Option (Int⊕(Unit⊕ρ))}(n:Nat)(t:Nat→Option ρ)(i0:Nat)(hn:i0≤n)
  (h:∀i,i0≤i→i<n→(∀j,i0≤j→j<i→t j=aO)→body (i:Int)=aN (match t i with|none=>.inl ((i+1:Nat):Int)|some r=>.inr (.inr r)))
  (he:(∀j,i0≤j→j<n→t j=aO)→body (n:Int)=aN (.inr (.inl ()))):
  zG body (i0:Int)=aN (zJY ((H7 i0 (n-i0)).findSome? t)):=by
 have key:∀k i,i0≤i→i+k=n→(∀j,i0≤j→j<i→t j=aO)→zG body (i:Int)=aN (zJY ((H7 i k).findSome? t)):=by
  intro k
  induction k with
  |zero=>
   intro i hi hk hp;obtain rfl:i=n:=by omega
   rw[yU,he hp];rfl
  |succ k ih=>
   intro i hi hk hp;rw[yU,h i hi (by omega) hp,Lo,Uq];cases ht:t i with
   |some r=>rfl
   |none=>
    simp only
    exact ih (i+1) (by omega) (by omega) fun j h1 h2=>by
     rcases Hv j i with h3|h3
     ·exact hp j h1 h3
     ·rw[show j=i from by omega];exact ht
 exact key (n-i0) i0 (Ji _) (by omega) fun j h1 h2=>by omega
theorem zM7{n:Nat}{b:Nat→Bool}:zJY ((H7 0 n).findSome? (fun i=>if b i then aO else aN aQ))=if(Jo n).all b then .inl ()else .inr aQ:=by
 have key:∀l:List Nat,zJY (l.findSome? (fun i=>if b i then aO else aN aQ))=if l.all b then .inl ()else .inr aQ:=by
  intro l
  induction l with
  |nil=>rfl
  |cons x l ih=>
   rw[Uq,Q7];cases hb:b x
   ·rfl
   ·simpa using ih
 rw[key,List.range_eq_range']
theorem zKI{body:Int→Option (Int⊕(Unit⊕Bool))}(n:Nat)(b:Nat→Bool)
  (h:∀i,i<n→(∀j,j<i→b j=aP)→body (i:Int)=aN (if b i then .inl ((i+1:Nat):Int)else .inr (.inr aQ)))
  (he:(∀j,j<n→b j=aP)→body (n:Int)=aN (.inr (.inl ()))):
  zG body 0=aN (if(Jo n).all b then .inl ()else .inr aQ):=by
 have:=zKH (body:=body) n (fun i=>if b i then aO else aN aQ) 0 (Km _) (fun i _ hi hp=>by
  rw[h i hi fun j hj=>by
   have:=hp j (Km _) hj;split at this
   ·assumption
   ·cases this]
  cases b i<;>rfl) (fun hp=>he fun j hj=>by
   have:=hp j (Km _) hj;split at this
   ·assumption
   ·cases this)
 rw[Q3]at this;exact this.trans (congrArg aN (zM7 (n:=n) (b:=b)))
theorem zM8{α:Type}{xs:List α}{z:α}{i:Nat}(h:i<xs.length):(xs.take i++J1 (xs.length-i) z).set i xs[i]=xs.take (i+1)++J1 (xs.length-(i+1)) z:=by
 have h1:(xs.take i).length=i:=by rw[Kr];omega
 rw[Ld _ _ (by omega),h1,K6,show xs.length-i=(xs.length-(i+1))+1 from by omega,Jz,K8,Jk h];simp only[Jb,Kh]
theorem zG2{α:Type}{f:α→Option α}{body:List α×Int→Option ((List α×Int)⊕List α)}{x0:List α}{z:α}
  (hb:∀s,body s=cond (decide (s.2<(x0.length:Int))) ((ixO x0 s.2).bind fun v2=>(f v2).bind fun r3=>(ixO s.1 s.2).bind fun _=>(rng (s.2+1)).bind fun v5=>aN (.inl (s.1.set s.2.toNat r3,v5))) (aN (.inr s.1)))
  (hl:x0.length≤68719476736)(hf:∀x∈x0,f x=aN x):zG body (J1 x0.length z,0)=aN x0:=by
 have:=zQ (body:=body) (r:=x0) (fun i=>(x0.take i++J1 (x0.length-i) z,(i:Int))) x0.length (fun i hi=>by
  rw[hb];simp only[aS (show((i:Int))<(x0.length:Int)from by omega),zH];rw[qY hi,wG];simp only[bs,hf _ (Jw hi)];rw[J5 (by simp;omega),bs,zC (by omega) (by omega),bs];simp only[Jn,zM8 hi,cs]) (by
  rw[hb];simp only[aR (show¬((x0.length:Int))<(x0.length:Int)from by omega),zI,Hy,K6,Hf,Je])
 simpa using this
theorem zPf{α:Type}[BEq α]{t:α→α→Option Bool}{body:Int→Option (Int⊕(Unit⊕Bool))}{x y:List α}
  (hb:∀i,body i=cond (decide (i<(x.length:Int))) ((ixO x i).bind fun v1=>(ixO y i).bind fun v2=>(t v1 v2).bind fun r3=>cond (!r3) (aN (.inr (.inr aQ))) ((rng (i+1)).bind fun v4=>aN (.inl v4))) (aN (.inr (.inl ()))))
  (hl:x.length≤68719476736)(mz:x.length=y.length)(ht:∀u∈x,∀v∈y,t u v=aN (u==v)):zG body 0=aN (if x==y then .inl ()else .inr aQ):=by
 have h:=zKI (body:=body) x.length (fun i=>match x[i]?,y[i]? with|some u,aN v=>u==v|_,_=>aP) (fun i hi _=>by
  have ej:i<y.length:=by omega
  rw[hb];simp only[aS (show((i:Int))<(x.length:Int)from by omega),zH];rw[qY hi,qY ej];simp only[bs,ht _ (Jw hi) _ (Jw ej),J5 hi,J5 ej];cases x[i]==y[i]
  ·rfl
  ·simp only[Jm,zI,if_true]
   rw[zC (by omega) (by omega),cs];rfl) (fun _=>by
  rw[hb];simp only[aR (show¬((x.length:Int))<(x.length:Int)from by omega),zI])
 rw[h]
 congr 2
 have key:∀(x y:List α),x.length=y.length→((Jo x.length).all (fun i=>match x[i]?,y[i]? with|some u,aN v=>u==v|_,_=>aP))=(x==y):=by
  intro x
  induction x with
  |nil=>intro y hy;cases y with|nil=>rfl|cons _ _=>simp at hy
  |cons u x ih=>
   intro y hy;cases y with
   |nil=>simp at hy
   |cons v y=>
    rw[Jh,Gy,Q7,List.all_map];simp only[Gp,Function.comp_def,Q9];rw[ih y (by simpa using hy)];rfl
 rw[key x y mz]
theorem zF3{α:Type}[BEq α]{t:α→α→Option Bool}{f:Option Bool}{body:Int→Option (Int⊕(Unit⊕Bool))}{x y:List α}
  (hf:f=cond ((x.length:Int) != (y.length:Int)) (aN aQ) ((zG body 0).bind fun r=>match r with|.inl _=>aN aP|.inr r=>aN r))
  (hb:∀i,body i=cond (decide (i<(x.length:Int))) ((ixO x i).bind fun v1=>(ixO y i).bind fun v2=>(t v1 v2).bind fun r3=>cond (!r3) (aN (.inr (.inr aQ))) ((rng (i+1)).bind fun v4=>aN (.inl v4))) (aN (.inr (.inl ()))))
  (hl:x.length≤68719476736)(ht:∀u∈x,∀v∈y,t u v=aN (u==v)):f=aN (x==y):=by
 rw[hf]
 by_cases mz:x.length=y.length
 ·rw[zPf hb hl mz ht]
  have:((x.length:Int) != (y.length:Int))=aQ:=by simp[mz]
  rw[this];cases x==y<;>rfl
 ·have:((x.length:Int) != (y.length:Int))=aP:=by simp;omega
  rw[this];have h2:(x==y)=aQ:=by
   have key:∀(x y:List α),x.length≠y.length→(x==y)=aQ:=by
    intro x
    induction x with
    |nil=>intro y hy;cases y with|nil=>simp at hy|cons _ _=>rfl
    |cons u x ih=>
     intro y hy;cases y with
     |nil=>rfl
     |cons v y=>
      show(u==v&&x==y)=aQ;rw[ih y (by simpa using hy),Bool.and_false]
   exact key x y mz
  rw[h2];rfl
end Go.Pl

namespace Go.Pl
open Go Go.Ab
def sm{α:Type}(c:α→Nat):List α→Nat
 | []=>0
 |x::xs=>c x+sm c xs
theorem zAT{α:Type}(c:α→Nat):∀xs ys:List α,sm c (xs++ys)=sm c xs+sm c ys
 | [],ys=>by simp[sm]
 |x::xs,ys=>by simp only[Kl,sm,zAT c xs ys];omega
theorem zD3{α:Type}(c:α→Nat){xs:List α}{i:Nat}(h:i<xs.length):sm c (xs.take (i+1))=sm c (xs.take i)+c xs[i]:=by grind[Jk,zAT,sm]
theorem kO{α:Type}(c:α→Nat)(xs:List α)(i:Nat):sm c (xs.take i)≤sm c xs:=by grind[zAT,Qg]
theorem zM9{α:Type}(c:α→Nat){xs:List α}{x:α}(h:x∈xs):c x≤sm c xs:=by
 obtain⟨i,hi,rfl⟩:=L0.1 h;have:=zD3 c hi
 grind[kO]
def szR(c:Nat)(b:Int):Int:=if(c:Int)≤b then b-c else -1
theorem zQq{α:Type}{c:α→Nat}{t:α→Int→Option Int}{f:Option Int}{body:Int×Int→Option ((Int×Int)⊕(Int⊕Int))}{xs:List α}{b:Int}
  (hf:f=(rng (b-(xs.length:Int))).bind fun v1=>cond (decide (v1<0)) (aN (-1)) ((zG body (v1,0)).bind fun r=>match r with|.inl r=>aN r|.inr r=>aN r))
  (hb:∀s,body s=cond (decide (s.2<(xs.length:Int))) ((ixO xs s.2).bind fun v2=>(t v2 s.1).bind fun r3=>cond (decide (r3<0)) (aN (.inr (.inr (-1)))) ((rng (s.2+1)).bind fun v4=>aN (.inl (r3,v4)))) (aN (.inr (.inl s.1))))
  (hl:xs.length≤9223372036854775807)(b0:0≤b)(b1:b≤1048576)(ht:∀x∈xs,∀b',0≤b'→b'≤1048576→t x b'=aN (szR (c x) b')):f=aN (szR (xs.length+sm c xs) b):=by
 rw[hf,zC (by omega) (by omega),bs]
 by_cases h0:b-(xs.length:Int)<0
 ·rw[aS h0,zH,szR,if_neg (by omega)]
 ·rw[aR h0,zI]
  obtain⟨r,h1,h2⟩:=vL (body:=body) (Q:=fun r=>(match r with|.inl r=>aN r|.inr r=>aN r)=aN (szR (xs.length+sm c xs) b)) (fun i s=>s.2=(i:Int)∧0≤s.1∧s.1=b-xs.length-sm c (xs.take i)) xs.length (fun i s hi ⟨e1,e2,e3⟩=>by
   rw[hb,e1,aS (by omega),zH,qY hi,bs,ht _ (Jw hi) _ e2 (by omega),bs];have h3:=zD3 c hi;have h4:=kO c xs (i+1);unfold szR
   by_cases h5:(c xs[i]:Int)≤s.1
   ·rw[if_pos h5,aR (by omega),zI,zC (by omega) (by omega),bs,cs]
    grind
   grind) (fun s ⟨e1,e2,e3⟩=>by
   rw[hb,e1,aR (by omega),zI];rw[Hy]at e3;refine⟨_,rfl,?_⟩;simp only
   rw[szR,if_pos (by omega),e3]
   grind) (s:=(b-(xs.length:Int),0)) ⟨rfl,by omega,by simp[sm]⟩
  grind
def mkL{α:Type}(m:Int→α→α)(c:α→Nat):Int→List α→List α
 |_,[]=>[]
 |k,x::xs=>m k x::mkL m c (k+c x) xs
theorem zB9{α:Type}(m:Int→α→α)(c:α→Nat):∀(xs ys:List α)(k:Int),mkL m c k (xs++ys)=mkL m c k xs++mkL m c (k+sm c xs) ys
 | [],ys,k=>by simp[mkL,sm]
 |x::xs,ys,k=>by
  simp only[Kl,mkL,sm,zB9 m c xs ys]
  grind
theorem vJ{α:Type}(m:Int→α→α)(c:α→Nat):∀(xs:List α)(k:Int),(mkL m c k xs).length=xs.length
 | [],_=>rfl
 |x::xs,k=>by simp[mkL,vJ m c xs]
theorem zJZ{α:Type}(m:Int→α→α)(c:α→Nat){xs:List α}{i:Nat}(h:i<xs.length)(k:Int):(mkL m c k xs)[i]'(by grind[vJ])=m (k+sm c (xs.take i)) xs[i]:=by
 have h1:xs=xs.take i++xs[i]::xs.drop (i+1):=by simp
 have h2:=zB9 m c (xs.take i) (xs[i]::xs.drop (i+1)) k;rw[←h1]at h2;rw[List.getElem_of_eq h2]
 grind[vJ,mkL]
theorem zCL{α:Type}{m:Int→α→α}{c:α→Nat}{t:α→Int→Option (Int×α)}{body:List α×Int×Int→Option ((List α×Int×Int)⊕(List α×Int))}{xs:List α}{k:Int}
  (hb:∀s,body s=cond (decide (s.2.2<(s.1.length:Int))) ((ixO s.1 s.2.2).bind fun v1=>(t v1 s.2.1).bind fun r2=>(rng (s.2.2+1)).bind fun v3=>aN (.inl (s.1.set s.2.2.toNat r2.2,r2.1,v3))) (aN (.inr (s.1,s.2.1))))
  (hl:xs.length≤1048576)(k0:0≤k)(k1:k+sm c xs≤9223372036854775807)(ht:∀x∈xs,∀k':Int,0≤k'→k'+c x≤9223372036854775807→t x k'=aN (k'+c x,m k' x)):zG body (xs,k,0)=aN (mkL m c k xs,k+sm c xs):=by
 have:=zQ (body:=body) (r:=(mkL m c k xs,k+sm c xs)) (fun i=>(mkL m c k (xs.take i)++xs.drop i,k+sm c (xs.take i),(i:Int))) xs.length (fun i hi=>by
  have h1:=zD3 c hi;have h2:=kO c xs (i+1);have gg:(mkL m c k (xs.take i)).length=i:=by grind[vJ]
  have hg:(mkL m c k (xs.take i)++xs.drop i)[i]? =aN xs[i]:=by grind
  rw[hb];simp only
  rw[aS (by grind),zH,wG,hg,bs,ht _ (Jw hi) _ (by omega) (by omega),bs,zC (by omega) (by omega),bs,cs];simp only[Jn];rw[Ld _ _ (by omega),gg,K6,H6 hi,K8,Jk hi,zB9,zAT,Jb];simp only[mkL,sm,Kh,U1]
  grind) (by
  rw[hb];simp only
  rw[aR (by grind[vJ]),zI];simp)
 grind[mkL,sm]
theorem zKJ{α:Type}{m:Int→α→α}{c:α→Nat}{t:α→Int→Option Int}{f:Option Int}{xs:List α}{k:Int}{body:Int×Int→Option ((Int×Int)⊕(Int⊕Int))}
  (hf:f=(zG body (k,0)).bind fun r=>match r with|.inl r=>aN r|.inr r=>aN r)
  (hb:∀s,body s=cond (decide (s.2<((mkL m c k xs).length:Int))) ((ixO (mkL m c k xs) s.2).bind fun v1=>(t v1 s.1).bind fun r2=>cond (decide (r2<0)) (aN (.inr (.inr (-1)))) ((rng (s.2+1)).bind fun v3=>aN (.inl (r2,v3)))) (aN (.inr (.inl s.1))))
  (hl:xs.length≤1048576)(k0:0≤k)(k1:k+sm c xs≤9223372036854775807)(ht:∀x∈xs,∀k':Int,0≤k'→k'+c x≤9223372036854775807→t (m k' x) k'=aN (k'+c x)):f=aN (k+sm c xs):=by
 have:=zQ (body:=body) (r:=.inl (k+sm c xs)) (fun i=>(k+sm c (xs.take i),(i:Int))) xs.length (fun i hi=>by
  have h1:=zD3 c hi;have h2:=kO c xs (i+1);rw[hb];simp only
  rw[vJ,aS (by omega),zH,qY (by grind[vJ]),bs,zJZ m c hi,ht _ (Jw hi) _ (by omega) (by omega),bs,aR (by omega),zI,zC (by omega) (by omega),bs,cs,h1]
  grind) (by
  rw[hb];simp only
  rw[vJ,aR (by omega),zI,Hy])
 rw[hf];simp only[Kg,sm]at this
 grind
end Go.Pl

namespace Go.Pl
open Go Go.Ab Go.Wk
abbrev VI(n:Int):Prop:=(Lit.int .i64 n).wf=aP
abbrev VL{α:Type}(V:α→Prop)(xs:List α):Prop:=xs.length≤maxLen∧ ∀x∈xs,V x
abbrev c1(x:List Int):Nat:=x.length
abbrev c2(x:List (List Int)):Nat:=x.length+sm c1 x
abbrev c3(x:List (List (List Int))):Nat:=x.length+sm c2 x
theorem zH5{x:List Int}{b:Int}(hl:x.length≤9223372036854775807)(b0:0≤b)(b1:b≤1048576):zNi x b=aN (szR (c1 x) b):=by
 unfold zNi szR;rw[zC (by omega) (by omega),bs]
 grind
theorem zCM{x:List (List Int)}{b:Int}(h:VL (VL VI) x)(b0:0≤b)(b1:b≤1048576):zNj x b=aN (szR (c2 x) b):=
 zQq (c:=c1) rfl (fun _=>rfl) h.1 b0 b1 fun y hy _ h1 h2=>zH5 (h.2 y hy).1 h1 h2
theorem zEo{x:List (List (List Int))}{b:Int}(h:VL (VL (VL VI)) x)(b0:0≤b)(b1:b≤1048576):zPt x b=aN (szR (c3 x) b):=
 zQq (c:=c2) rfl (fun _=>rfl) h.1 b0 b1 (by grind[zCM])
abbrev S1(x:List Int):Prop:=c1 x≤1048576
abbrev S2(x:List (List Int)):Prop:=c2 x≤1048576
abbrev S3(x:List (List (List Int))):Prop:=c3 x≤1048576
theorem S2.mem{x:List (List Int)}(h:S2 x){y:List Int}(hy:y∈x):S1 y:=by
 have:=zM9 c1 hy
 grind
theorem S3.mem{x:List (List (List Int))}(h:S3 x){y:List (List Int)}(hy:y∈x):S2 y:=by
 have:=zM9 c2 hy
 grind
theorem S1.len{x:List Int}(h:S1 x):x.length≤1048576:=h
theorem S2.len{x:List (List Int)}(h:S2 x):x.length≤1048576:=by grind
theorem S3.len{x:List (List (List Int))}(h:S3 x):x.length≤1048576:=by grind
theorem zH6{x:List Int}(h:S1 x):zLe x=aN x:=by unfold zLe;rw[yO (Lb h (by decide)),bs,zG2 (body:=zNk x) (f:=aN) (fun _=>rfl) (by grind) (fun _ _=>rfl),bs]
theorem zCN{x:List (List Int)}(h:S2 x):f_x x=aN x:=by unfold f_x;rw[yO (by grind),bs,zG2 (body:=zRv x) (f:=zLe) (fun _=>rfl) (by grind) (fun _ hx=>zH6 (h.mem hx)),bs]
theorem zEp{x:List (List (List Int))}(h:S3 x):zNm x=aN x:=by unfold zNm;rw[yO (by grind),bs,zG2 (body:=zNl x) (f:=f_x) (fun _=>rfl) (by grind) (fun _ hx=>zCN (h.mem hx)),bs]
theorem zH7{x y:List Int}(h:S1 x):zOf x y=aN (x==y):=
 zF3 (t:=fun u v=>aN (u==v)) (body:=zOe x y) rfl (fun _=>rfl) (by grind) fun _ _ _ _=>rfl
theorem jY{x y:List (List Int)}(h:S2 x):f_z x y=aN (x==y):=
 zF3 (t:=zOf) (body:=zR6 x y) rfl (fun _=>rfl) (by grind) fun _ hu _ _=>zH7 (h.mem hu)
theorem zEq{x y:List (List (List Int))}(h:S3 x):zPA x y=aN (x==y):=
 zF3 (t:=f_z) (body:=zOg x y) rfl (fun _=>rfl) (by grind) fun _ hu _ _=>jY (h.mem hu)
def m1(k:Int)(x:List Int):List Int:=mkL (fun k _=>k) (fun _=>1) k x
def m2(k:Int)(x:List (List Int)):List (List Int):=mkL m1 c1 k x
def m3(k:Int)(x:List (List (List Int))):List (List (List Int)):=mkL m2 (sm c1) k x
theorem zIB{α:Type}:∀xs:List α,sm (fun _=>1) xs=xs.length
 | []=>rfl
 |x::xs=>by simp[sm,zIB xs];omega
theorem zEr{x:List Int}{k:Int}(h:S1 x)(k0:0≤k)(k1:k+c1 x≤9223372036854775807):zLl x k=aN (k+c1 x,m1 k x):=by have h1:=zIB x;have:=zCL (m:=fun k _=>k) (c:=fun _=>1) (t:=fun v k=>(rng (k+1)).bind fun v2=>aN (v2,k)) (body:=zKv) (xs:=x) (k:=k) (by grind[zKv]) h.len k0 (by grind) (by grind[zC]);unfold zLl;rw[this,bs,h1];rfl
theorem qZ{x:List (List Int)}{k:Int}(h:S2 x)(k0:0≤k)(k1:k+sm c1 x≤9223372036854775807):f_L x k=aN (k+sm c1 x,m2 k x):=by unfold f_L;rw[zCL (body:=zR7) (m:=m1) (c:=c1) (t:=zLl) (fun _=>rfl) h.len k0 k1 fun y hy _ h1 h2=>zEr (h.mem hy) h1 h2,bs];rfl
theorem zCk{x:List (List (List Int))}{k:Int}(h:S3 x)(k0:0≤k)(k1:k+sm (sm c1) x≤9223372036854775807):zOi x k=aN (k+sm (sm c1) x,m3 k x):=by unfold zOi;rw[zCL (body:=zOh) (m:=m2) (c:=sm c1) (t:=f_L) (fun _=>rfl) h.len k0 k1 fun y hy _ h1 h2=>qZ (h.mem hy) h1 h2,bs];rfl
theorem zIC{x:List Int}{k:Int}(h:S1 x)(k0:0≤k)(k1:k+c1 x≤9223372036854775807):zOj (m1 k x) k=aN (k+c1 x):=by
 have hl:=h.len;have bK:(m1 k x).length=x.length:=vJ _ _ _ _;have:=zQ (body:=zIn (m1 k x)) (r:=.inl (k+c1 x)) (fun i=>(k+(i:Int),(i:Int))) x.length (fun i hi=>by
  have hg:(m1 k x)[i]'(by omega)=k+sm (fun _=>1) (x.take i):=zJZ _ _ hi _;unfold zIn;rw[aS (by omega),zH,qY (by rw[bK];exact hi),bs,hg,zIB,Kr,Gx (by omega),show(k+(i:Int) != k+(i:Int))=aQ from by simp,zI,zC (by omega) (by grind),bs,zC (by omega) (by omega),bs,cs]
  grind) (by
  unfold zIn
  grind)
 unfold zOj
 grind
theorem zH8{x:List (List Int)}{k:Int}(h:S2 x)(k0:0≤k)(k1:k+sm c1 x≤9223372036854775807):zPF (m2 k x) k=aN (k+sm c1 x):=
 zKJ (body:=zOl (m2 k x)) (m:=m1) (c:=c1) (t:=zOj) rfl (fun _=>rfl) h.len k0 k1 fun _ hy _ h1 h2=>zIC (h.mem hy) h1 h2
def zKa(x:SPr):Prop:=VL VI x.zA∧VL (VL VI) x.zW∧VL (VL (VL VI)) x.zB
def zPg(x:zD):Prop:=VI x.Prime∧VI x.Dim∧VL (VL (VL VI)) x.zL
def zH9(x:SPr):Nat:=c1 x.zA+c2 x.zW+c3 x.zB
def zMA(x:zD):Nat:=c3 x.zL
def zA2(x:SPr):Prop:=S1 x.zA∧S2 x.zW∧S3 x.zB
def zEs(x:zD):Prop:=S3 x.zL
theorem zHA{a b:Nat}{n:Int}:(szR a n<0∧szR (a+b) n= -1)∨(0≤szR a n∧szR a n≤n∧szR b (szR a n)=szR (a+b) n∧(a:Int)≤n)∨n<0:=by unfold szR;omega
theorem zEt{x:SPr}{b:Int}(h:zKa x)(b0:0≤b)(b1:b≤1048576):zPu x b=aN (szR (zH9 x) b):=by
 obtain⟨h1,h2,h3⟩:=h;unfold zPu zH9;rw[zH5 h1.1 b0 b1,bs];rcases zHA (a:=c1 x.zA) (b:=c2 x.zW+c3 x.zB) (n:=b)with⟨g1,g2⟩|⟨g1,g2,g3,g4⟩|g1
 ·grind
 ·rw[aR (by omega),zI,zCM h2 g1 (by omega),bs,L9,←g3]
  generalize szR (c1 x.zA) b=b' at g1 g2
  rcases zHA (a:=c2 x.zW) (b:=c3 x.zB) (n:=b')with⟨k1,k2⟩|⟨k1,k2,k3,k4⟩|k1
  ·grind
  ·rw[aR (by omega),zI,zEo h3 k1 (by omega),bs,←k3]
   generalize szR (c2 x.zW) b'=b'' at k1 k2
   unfold szR
   grind
  ·omega
 ·omega
theorem zMB{x:zD}{b:Int}(h:zPg x)(b0:0≤b)(b1:b≤1048576):zPv x b=aN (szR (zMA x) b):=by
 obtain⟨_,_,h3⟩:=h;unfold zPv zMA;rw[zEo h3 b0 b1,bs];unfold szR
 grind
theorem zG3{c:Nat}{b:Int}(_:0≤b)(b1:b≤1048576):(decide (szR c b<0)=aP)∨(decide (szR c b<0)=aQ∧0≤szR c b∧szR c b≤1048576∧c≤1048576):=by
 unfold szR
 grind
theorem zA2.of{x:SPr}(h:zH9 x≤1048576):zA2 x:=by unfold zH9 at h;exact⟨by omega,by omega,by omega⟩
theorem zEs.of{x:zD}(h:zMA x≤1048576):zEs x:=h
theorem zEu{x:SPr}(h:zA2 x):zJd x=aN x:=by unfold zJd;rw[zH6 h.1,bs,zCN h.2.1,bs,zEp h.2.2,bs]
theorem zMC{x:zD}(h:zEs x):zJe x=aN x:=by unfold zJe;rw[zEp h,bs]
theorem zMD{x:zD}(h:zEs x):zPB x x=aN aP:=by unfold zPB;rw[zEq h,bs];simp
theorem zEv{x:SPr}(h:zA2 x):zPC x x=aN aP:=by unfold zPC;rw[zH7 h.1,bs,jY h.2.1,bs,zEq h.2.2,bs];simp
theorem zG4{x:List (List Int)}:sm c1 x≤c2 x:=by simp
theorem zKb{α:Type}{f g:α→Nat}(h:∀x,f x≤g x):∀xs:List α,sm f xs≤sm g xs
 | []=>Ji _
 |x::xs=>by have:=zKb h xs;grind[sm]
theorem zID{x:List (List (List Int))}:sm (sm c1) x≤c3 x:=by
 have:=zKb (f:=sm c1) (g:=c2) (fun _=>zG4) x
 grind
theorem zIE{x:zD}{k:Int}(h:zEs x)(k0:0≤k)(k1:k≤1000000000):zPE x k=aN (k+sm (sm c1) x.zL,zD.mk x.Prime x.Dim (m3 k x.zL)):=by
 have g3:=zID (x:=x.zL);have h':=h;simp only[zEs,S3]at h'
 grind[zPE,zCk]
end Go.Pl

namespace Go.Pl
open Go Go.Ab Go.Wk
def IsB(o:Option Bool)(P:Prop):Prop:=(o=aN aP∧P)∨(o=aN aQ∧ ¬P)
theorem IsB.iff{o:Option Bool}{P Q:Prop}(h:IsB o P)(hpq:P↔Q):IsB o Q:=by grind
theorem IsB.of_bool{b:Bool}{P:Prop}(h:b=aP↔P):IsB (aN b) P:=by
 cases b
 ·exact .inr (by grind)
 ·exact .inl ⟨rfl,h.1 rfl⟩
theorem chk{ρ:Type}{body:Int→Option (Int⊕(Unit⊕ρ))}(n i0:Nat)(hn:i0≤n)(P:Nat→Prop)(bad:Nat→ρ)
  (h:∀i,i0≤i→i<n→(∀j,i0≤j→j<i→P j)→(body (i:Int)=aN (.inl ((i+1:Nat):Int))∧P i)∨(body (i:Int)=aN (.inr (.inr (bad i)))∧ ¬P i))
  (he:body (n:Int)=aN (.inr (.inl ()))):
  (zG body (i0:Int)=aN (.inl ())∧ ∀j,i0≤j→j<n→P j)∨ ∃i,i0≤i∧i<n∧zG body (i0:Int)=aN (.inr (bad i))∧ ¬P i:=by
 have key:∀k i,i0≤i→i+k=n→(∀j,i0≤j→j<i→P j)→(zG body (i:Int)=aN (.inl ())∧ ∀j,i0≤j→j<n→P j)∨ ∃q,i0≤q∧q<n∧zG body (i:Int)=aN (.inr (bad q))∧ ¬P q:=by
  intro k
  induction k with
  |zero=>
   intro i hi hk hp;obtain rfl:i=n:=by omega
   grind[yU]
  |succ k ih=>
   intro i hi hk hp;rcases h i hi (by omega) hp with⟨h1,h2⟩|⟨h1,h2⟩
   ·have:=ih (i+1) (by omega) (by omega) (by grind)
    rw[yU,h1];exact this
   grind[yU]
 exact key (n-i0) i0 (Ji _) (by omega) fun j a b=>by omega
theorem uZ{f:Option Bool}{body:Int→Option (Int⊕(Unit⊕Bool))}(n:Nat)(P:Nat→Prop)
  (hf:f=(zG body 0).bind fun r=>match r with|.inl _=>aN aP|.inr r=>aN r)
  (h:∀i,i<n→(∀j,j<i→P j)→(body (i:Int)=aN (.inl ((i+1:Nat):Int))∧P i)∨(body (i:Int)=aN (.inr (.inr aQ))∧ ¬P i))
  (he:body (n:Int)=aN (.inr (.inl ()))):IsB f (∀i,i<n→P i):=by
 rcases chk n 0 (Km _) P (fun _=>aQ) (fun i _ hi hp=>h i hi fun j hj=>hp j (Km _) hj) he with⟨h1,h2⟩|⟨i,_,hi,h1,h2⟩
 ·refine .inl ⟨?_,fun i hi=>h2 i (Km _) hi⟩
  rw[hf];rw[show((0:Nat):Int)=0 from rfl]at h1;rw[h1,bs]
 ·refine .inr ⟨?_,fun hp=>h2 (hp i hi)⟩
  rw[hf];rw[show((0:Nat):Int)=0 from rfl]at h1;rw[h1,bs]
theorem vA{o:Option Bool}{P:Prop}{ρ:Type}{bad:ρ}{i:Nat}{g:Option (Int⊕(Unit⊕ρ))}(h:IsB o P)(hi:i<9223372036854775807)
  (hg:g=o.bind fun r=>cond (!r) (aN (.inr (.inr bad))) ((rng ((i:Int)+1)).bind fun v=>aN (.inl v))):(g=aN (.inl ((i+1:Nat):Int))∧P)∨(g=aN (.inr (.inr bad))∧ ¬P):=by
 subst hg;rcases h with⟨h1,h2⟩|⟨h1,h2⟩
 ·refine .inl ⟨?_,h2⟩
  rw[h1,bs,Jm,zI,zC (by omega) (by omega),bs,cs]
 grind
theorem xG{i n:Nat}(h:i<n):decide ((i:Int)<(n:Int))=aP:=by grind
theorem jG{n:Nat}:decide ((n:Int)<(n:Int))=aQ:=by simp
theorem sH(x a b:Int):IsB (zJi x a b) (a≤x∧x≤b):=by
 unfold zJi
 by_cases h:x≥a
 ·rw[aS h,zH];grind[IsB.of_bool]
 ·rw[aR h,zI];exact .inr ⟨rfl,by omega⟩
theorem zA3(x a b:Int):IsB (zNn x a b) (a≤x∧x≤b):=sH x a b
def Prime(p:Int):Prop:=p=2∨p=3∨p=5∨p=7
theorem kP(x:Int):IsB (zLg x) (Prime x):=by
 unfold zLg Prime
 by_cases h2:x=2
 ·subst h2;exact .inl ⟨rfl,.inl rfl⟩
 ·rw[show(x==2)=aQ from by grind,zI]
  by_cases h3:x=3
  ·subst h3;exact .inl (by simp)
  ·rw[show(x==3)=aQ from by grind,zI]
   by_cases h5:x=5
   ·subst h5;exact .inl (by simp)
   ·rw[show(x==5)=aQ from by grind,zI]
    grind[IsB.of_bool]
theorem zEw(x:Int):IsB (zPw x) (Prime x):=kP x
abbrev at0(v:List Int)(i:Nat):Int:=v.getD i 0
theorem yV{v:List Int}{i:Nat}(h:i<v.length):ixO v (i:Int)=aN (at0 v i):=by rw[qY h,at0,J4,J5 h];rfl
def zTh(os v:List Int):Prop:=v.length=os.length∧ ∀i,i<v.length→0≤at0 v i∧at0 v i≤at0 os i-1
def Exp(os v:List Int)(k:Nat):Prop:=zTh os v∧ ∀i,i≤k→at0 v i=0
def Os(os:List Int):Prop:=os.length≤9∧ ∀i,i<os.length→Prime (at0 os i)
theorem Prime.pos{p:Int}(h:Prime p):2≤p∧p≤7:=by unfold Prime at h;omega
theorem zCO{x:SPr}{v:List Int}(ho:Os x.zA):IsB (zP3 x v) (zTh x.zA v):=by
 unfold zP3
 by_cases h:v.length=x.zA.length
 ·rw[show((v.length:Int) != (x.zA.length:Int))=aQ from by simp[h],zI]
  have h6:=ho.1;refine(uZ v.length (fun i=>0≤at0 v i∧at0 v i≤at0 x.zA i-1) rfl (fun i hi _=>?_) ?_).iff ⟨fun g=>⟨h,g⟩,fun g=>g.2⟩
  ·have hp:=(ho.2 i (by omega)).pos
   refine vA (sH _ _ _) (by omega) ?_;unfold zKt;rw[xG hi,zH,yV hi,bs,yV (by omega),bs,zC (by omega) (by omega),bs]
  ·unfold zKt
   simp
 ·rw[show((v.length:Int) != (x.zA.length:Int))=aP from by simp;omega,zH]
  exact .inr ⟨rfl,fun g=>h g.1⟩
theorem zHB{v:List Int}(hl:v.length≤9):IsB (f_A v) (∀i,i<v.length→at0 v i=0):=by
 refine uZ v.length (fun i=>at0 v i=0) rfl (fun i hi _=>?_) ?_
 ·refine vA (o:=aN (at0 v i==0)) (IsB.of_bool (by simp)) (by omega) ?_
  unfold zLh;rw[xG hi,zH,yV hi,bs,bs];rfl
 ·unfold zLh
  simp
theorem zAd{x:SPr}{k:Nat}{v:List Int}(ho:Os x.zA)(hk:k<x.zA.length):IsB (zNA x k v) (Exp x.zA v k):=by
 have h6:=ho.1;unfold zNA;rcases zCO (v:=v) ho with⟨h1,h2⟩|⟨h1,h2⟩
 ·have hl:=h2.1
  rw[h1,bs,zH,zC (by omega) (by omega),bs];have hs:yF v 0 ((k:Int)+1)=aN (v.take (k+1)):=by
   unfold yF
   grind
  rw[hs,bs];have hb:=zHB (v:=v.take (k+1)) (by grind);have bj:(∀i,i<(v.take (k+1)).length→at0 (v.take (k+1)) i=0)↔Exp x.zA v k:=by
   have e:∀i,i≤k→at0 (v.take (k+1)) i=at0 v i:=by grind
   rw[Kr,Gx (by omega)];exact⟨fun g=>⟨h2,by grind⟩,fun g i hi=>by rw[e i (by omega)];exact g.2 i (by omega)⟩
  grind
 ·rw[h1,bs,zI]
  exact .inr ⟨rfl,fun g=>h2 g.1⟩
theorem zA4{os v:List Int}{k:Nat}(ho:Os os)(hk:k<os.length):IsB (zNo os v k) (Exp os v k):=by
 have h6:=ho.1;unfold zNo
 by_cases h:v.length=os.length
 ·rw[show((v.length:Int) != (os.length:Int))=aQ from by simp[h],zI]
  refine(uZ v.length (fun i=>(0≤at0 v i∧at0 v i≤at0 os i-1)∧(i≤k→at0 v i=0)) rfl (fun i hi _=>?_) ?_).iff ⟨fun g=>⟨⟨h,by grind⟩,by grind⟩,fun g i hi=>⟨g.1.2 i hi,fun hk=>g.2 i hk⟩⟩
  ·have hp:=(ho.2 i (by omega)).pos
   unfold zKq;rw[xG hi,zH,yV hi,bs,yV (by omega),bs,zC (by omega) (by omega),bs];rcases zA3 (at0 v i) 0 (at0 os i-1)with⟨h1,h2⟩|⟨h1,h2⟩
   ·rw[h1,bs,Jm,zI]
    by_cases h3:(i:Int)≤(k:Int)
    ·rw[aS h3,zH,bs]
     by_cases h4:at0 v i=0
     ·rw[show(at0 v i != 0)=aQ from by grind,zI,zC (by omega) (by omega),bs,cs]
      grind
     grind
    ·rw[aR h3,zI,zC (by omega) (by omega),bs,cs]
     grind
   grind
  ·unfold zKq
   simp
 ·rw[show((v.length:Int) != (os.length:Int))=aP from by simp;omega,zH]
  exact .inr ⟨rfl,fun g=>h g.1.1⟩
end Go.Pl

namespace Go.Pl
open Go Go.Ab Go.Wk
theorem zTN{σ ρ:Type}{body:σ→Option (σ⊕(Unit⊕ρ))}(S:Nat→σ)(n i0:Nat)(hn:i0≤n)(P:Nat→Prop)(bad:Nat→ρ)
  (h:∀i,i0≤i→i<n→(∀j,i0≤j→j<i→P j)→(body (S i)=aN (.inl (S (i+1)))∧P i)∨(body (S i)=aN (.inr (.inr (bad i)))∧ ¬P i))
  (he:body (S n)=aN (.inr (.inl ()))):
  (zG body (S i0)=aN (.inl ())∧ ∀j,i0≤j→j<n→P j)∨ ∃i,i0≤i∧i<n∧zG body (S i0)=aN (.inr (bad i))∧ ¬P i:=by
 have key:∀k i,i0≤i→i+k=n→(∀j,i0≤j→j<i→P j)→(zG body (S i)=aN (.inl ())∧ ∀j,i0≤j→j<n→P j)∨ ∃q,i0≤q∧q<n∧zG body (S i)=aN (.inr (bad q))∧ ¬P q:=by
  intro k
  induction k with
  |zero=>
   intro i hi hk hp;obtain rfl:i=n:=by omega
   grind[yU]
  |succ k ih=>
   intro i hi hk hp;rcases h i hi (by omega) hp with⟨h1,h2⟩|⟨h1,h2⟩
   ·have:=ih (i+1) (by omega) (by omega) (by grind)
    rw[yU,h1];exact this
   grind[yU]
 exact key (n-i0) i0 (Ji _) (by omega) fun j a b=>by omega
theorem zAe{a b:Int}(h:a=b):(a != b)=aQ:=by simp[h]
theorem zAf{a b:Int}(h:a≠b):(a != b)=aP:=by simp[h]
def pr(os:List Int):Nat→Int
 |0=>1
 |i+1=>pr os i*at0 os i
def cp(os:List Int):Nat→Int
 |0=>1
 |i+1=>if cp os i≤729 then cp os i*at0 os i else cp os i
theorem zBA{os:List Int}:∀{i:Nat},(∀j,j<i→Prime (at0 os j))→1≤pr os i
 |0,_=>by simp[pr]
 |i+1,h=>by have h1:=zBA (os:=os) (i:=i) (by grind);have h2:=(h i (by omega)).pos;simp only[pr];have:(1:Int)*1≤pr os i*at0 os i:=Kf h1 (by omega) (by omega) (by omega);omega
theorem zKc{os:List Int}{i:Nat}(h:∀j,j≤i→Prime (at0 os j)):pr os i≤pr os (i+1):=by have h1:=zBA (os:=os) (i:=i) (by grind);have h2:=(h i (Ji _)).pos;simp only[pr];have:pr os i*1≤pr os i*at0 os i:=Lg (by omega) (by omega);omega
theorem zG5{os:List Int}{n:Nat}(h:∀j,j<n→Prime (at0 os j)):∀k,k≤n→pr os (n-k)≤pr os n
 |0,_=>Int.le_refl _
 |k+1,hk=>by
  have h1:=zG5 h k (by omega);have h2:=zKc (os:=os) (i:=n-(k+1)) (by grind)
  grind
theorem zME{os:List Int}:∀{i:Nat},(∀j,j<i→Prime (at0 os j))→(cp os i=pr os i∧pr os i≤729∨729<cp os i∧cp os i≤5103∧729<pr os i)
 |0,_=>by simp[cp,pr]
 |i+1,h=>by
  have h0:∀j,j<i→Prime (at0 os j):=by grind
  have h2:=(h i (by omega)).pos;have h3:=zKc (os:=os) (i:=i) (by grind);have tz:=zBA h0;simp only[cp];rcases zME h0 with⟨h1,h4⟩|⟨h1,h4,h5⟩
  ·rw[h1,if_pos h4]
   have h6:pr os i*at0 os i≤729*7:=Kf h4 h2.2 (by omega) (by omega);simp only[pr]at h3 ⊢
   grind
  omega
def zDj(x:SPr)(i:Nat):Prop:=Exp x.zA (x.zW.getD i []) i∧(x.zB.getD i []).length+i+1=x.zA.length∧ ∀j,j<(x.zB.getD i []).length→Exp x.zA ((x.zB.getD i []).getD j []) i
structure zEx (x:SPr):Prop where
 os:True∧ ∀i,i<x.zA.length→Prime (at0 x.zA i)
 pl:x.zW.length=x.zA.length
 cl:x.zB.length=x.zA.length
 tl:∀i,i<x.zA.length→zDj x i
structure Pres (x:SPr):Prop where
 os:Os x.zA
 pl:x.zW.length=x.zA.length
 cl:x.zB.length=x.zA.length
 tl:∀i,i<x.zA.length→zDj x i
theorem Pres.w{x:SPr}(h:Pres x):zEx x:=⟨⟨trivial,h.os.2⟩,h.pl,h.cl,h.tl⟩
structure zHC (x:SPr):Prop extends Pres x where
 n6:x.zA.length≤6
 pr:pr x.zA x.zA.length≤729
theorem yC{α:Type}{v:List α}{i:Nat}(d:α)(h:i<v.length):ixO v (i:Int)=aN (v.getD i d):=by grind[qY]
theorem zIF{x:SPr}(ho:Os x.zA)(hp:x.zW.length=x.zA.length)(hc:x.zB.length=x.zA.length){i:Nat}(hi:i<x.zA.length):
  (zJk x i=aN (.inl ((i+1:Nat):Int))∧zDj x i)∨(zJk x i=aN (.inr (.inr aQ))∧ ¬zDj x i):=by
 have h6:=ho.1;unfold zJk;rw[xG hi,zH,yC [] (by omega),bs];rcases zAd (v:=x.zW.getD i []) ho hi with⟨h1,h2⟩|⟨h1,h2⟩
 ·rw[h1,bs,Jm,zI,yC [] (by omega),bs,zC (by omega) (by omega),bs,zC (by omega) (by omega),bs]
  by_cases hl:(x.zB.getD i []).length+i+1=x.zA.length
  ·rw[zAe (by omega),zI,bs]
   rcases chk (body:=zNB x i (x.zB.getD i [])) (x.zB.getD i []).length 0 (Km _) (fun j=>Exp x.zA ((x.zB.getD i []).getD j []) i) (fun _=>aQ) (fun j _ hj _=>by
     refine vA (zAd ho hi) (by omega) ?_;unfold zNB;rw[xG hj,zH,yC [] hj,bs]) (by
     unfold zNB;simp)with⟨g1,g2⟩|⟨j,_,hj,g1,g2⟩
   ·rw[show((0:Nat):Int)=0 from rfl]at g1
    rw[g1,bs];simp only
    rw[zC (by omega) (by omega),bs,cs];exact .inl ⟨rfl,h2,hl,by grind⟩
   ·rw[show((0:Nat):Int)=0 from rfl]at g1
    rw[g1,bs];exact .inr ⟨rfl,fun g=>g2 (g.2.2 j hj)⟩
  ·rw[zAf (by omega),zH]
   exact .inr ⟨rfl,fun g=>hl g.2.1⟩
 ·rw[h1,bs,Ka,zH]
  exact .inr ⟨rfl,fun g=>h2 g.1⟩
theorem zIG{x:SPr}(ho:Os x.zA)(hp:x.zW.length=x.zA.length)(hc:x.zB.length=x.zA.length){i:Nat}(hi:i<x.zA.length):
  (zJf x i=aN (.inl ((i+1:Nat):Int))∧zDj x i)∨(zJf x i=aN (.inr (.inr aQ))∧ ¬zDj x i):=by
 have h6:=ho.1;unfold zJf;rw[xG hi,zH,yC [] (by omega),bs];rcases zA4 (v:=x.zW.getD i []) ho hi with⟨h1,h2⟩|⟨h1,h2⟩
 ·rw[h1,bs,Jm,zI,yC [] (by omega),bs,zC (by omega) (by omega),bs,zC (by omega) (by omega),bs]
  by_cases hl:(x.zB.getD i []).length+i+1=x.zA.length
  ·rw[zAe (by omega),zI]
   rcases chk (body:=zNq x i) (x.zB.getD i []).length 0 (Km _) (fun j=>Exp x.zA ((x.zB.getD i []).getD j []) i) (fun _=>aQ) (fun j _ hj _=>by
     refine vA (zA4 ho hi) (by omega) ?_;unfold zNq;rw[yC [] (by omega),bs,xG hj,zH,bs,yC [] hj,bs]) (by
     unfold zNq;rw[yC [] (by omega),bs,jG,zI])with⟨g1,g2⟩|⟨j,_,hj,g1,g2⟩
   ·rw[show((0:Nat):Int)=0 from rfl]at g1
    rw[g1,bs];simp only
    rw[zC (by omega) (by omega),bs,cs];exact .inl ⟨rfl,h2,hl,by grind⟩
   ·rw[show((0:Nat):Int)=0 from rfl]at g1
    rw[g1,bs];exact .inr ⟨rfl,fun g=>g2 (g.2.2 j hj)⟩
  ·rw[zAf (by omega),zH]
   exact .inr ⟨rfl,fun g=>hl g.2.1⟩
 ·rw[h1,bs,Ka,zH]
  exact .inr ⟨rfl,fun g=>h2 g.1⟩
theorem zHD{x:SPr}(h6:x.zA.length≤6):
  (zG (zJj x) (1,0)=aN (.inl ())∧Os x.zA∧pr x.zA x.zA.length≤729)∨(zG (zJj x) (1,0)=aN (.inr aQ)∧ ¬(Os x.zA∧pr x.zA x.zA.length≤729)):=by
 rcases zTN (body:=zJj x) (fun i=>(pr x.zA i,(i:Int))) x.zA.length 0 (Km _) (fun i=>Prime (at0 x.zA i)∧pr x.zA (i+1)≤729) (fun _=>aQ) (fun i _ hi mW=>by
   have hp:∀j,j<i→Prime (at0 x.zA j):=by grind
   have tz:=zBA hp;have fp:pr x.zA i≤729:=by
    cases i with
    |zero=>simp[pr]
    |succ i=>grind
   unfold zJj;rw[xG hi,zH,yV hi,bs];rcases kP (at0 x.zA i)with⟨h1,h2⟩|⟨h1,h2⟩
   ·have h3:=h2.pos
    have h4:pr x.zA i*at0 x.zA i≤729*7:=Kf fp h3.2 (by omega) (by omega);have h5:1*1≤pr x.zA i*at0 x.zA i:=Kf tz (by omega) (by omega) (by omega);simp only
    rw[h1,bs,Jm,zI,zC (by omega) (by omega),bs]
    by_cases h7:pr x.zA i*at0 x.zA i> 729
    ·rw[aS h7,zH]
     exact .inr ⟨rfl,by grind[pr]⟩
    ·rw[aR h7,zI,bs,zC (by omega) (by omega),bs,cs]
     exact .inl ⟨rfl,h2,by grind[pr]⟩
   grind) (by
   unfold zJj;simp)with⟨g1,g2⟩|⟨i,_,hi,g1,g2⟩
 ·refine .inl ⟨g1,⟨by omega,by grind⟩,?_⟩
  cases hn:x.zA.length with
  |zero=>simp[pr]
  |succ n=>grind
 ·refine .inr ⟨g1,fun⟨h1,h2⟩=>g2 ⟨h1.2 i hi,?_⟩⟩
  have:=zG5 (os:=x.zA) (n:=x.zA.length) h1.2 (x.zA.length-(i+1)) (by omega)
  grind
theorem zG6{os:List Int}(ho:Os os):zPx os=aN (cp os os.length):=by
 have h6:=ho.1;unfold zPx;rw[show(1,0)=(fun i=>(cp os i,(i:Int))) 0 from rfl,zQ (body:=zIe os) (r:=cp os os.length) (fun i=>(cp os i,(i:Int))) os.length (fun i hi=>by
  have hp:=(ho.2 i hi).pos;have hc:=zME (os:=os) (i:=i) fun j hj=>ho.2 j (by omega)
  have tz:=zBA (os:=os) (i:=i) fun j hj=>ho.2 j (by omega)
  unfold zIe;rw[xG hi,zH];simp only[cp]
  by_cases h:cp os i≤729
  ·have h4:cp os i*at0 os i≤729*7:=Kf h hp.2 (by omega) (by omega)
   have h5:1*1≤cp os i*at0 os i:=Kf (by omega) (by omega) (by omega) (by omega);rw[aS h,zH,yV hi,bs,zC (by omega) (by omega),bs,zC (by omega) (by omega),bs,cs,if_pos h]
  ·rw[aR h,zI,zC (by omega) (by omega),bs,cs,if_neg h]) (by
  unfold zIe;simp),bs]
theorem zAZ{x:SPr}(hl:x.zA.length≤1048576):IsB (f_i x) (zHC x):=by
 unfold f_i
 by_cases h6:x.zA.length≤6
 ·rw[aR (by omega),zI]
  by_cases hp:x.zW.length=x.zA.length
  ·rw[zAe (by omega),zI]
   by_cases hc:x.zB.length=x.zA.length
   ·rw[zAe (by omega),zI]
    rcases zHD h6 with⟨h1,h2,h3⟩|⟨h1,h2⟩
    ·rw[h1,bs]
     exact(uZ (f:=(zG (zJk x) 0).bind fun r=>match r with|.inl _=>aN aP|.inr r=>aN r) x.zA.length (zDj x) rfl (by grind[zIF]) (by unfold zJk;simp)).iff ⟨fun g=>⟨⟨h2,hp,hc,g⟩,h6,h3⟩,fun g=>g.tl⟩
    ·rw[h1,bs]
     exact .inr ⟨rfl,fun g=>h2 ⟨g.os,g.pr⟩⟩
   ·rw[zAf (by omega),zH]
    exact .inr ⟨rfl,fun g=>hc g.cl⟩
  ·rw[zAf (by omega),zH]
   exact .inr ⟨rfl,fun g=>hp g.pl⟩
 ·rw[aS (by omega),zH]
  exact .inr ⟨rfl,fun g=>h6 g.n6⟩
theorem zBa{x:SPr}(hl:x.zA.length≤1048576):IsB (f_k x) (zHC x):=by
 unfold f_k
 by_cases h6:x.zA.length≤6
 ·rw[aR (by omega),zI]
  by_cases hp:x.zW.length=x.zA.length
  ·rw[zAe (by omega),zI]
   by_cases hc:x.zB.length=x.zA.length
   ·rw[zAe (by omega),zI]
    rcases chk (body:=zNp x) x.zA.length 0 (Km _) (fun i=>Prime (at0 x.zA i)) (fun _=>aQ) (fun i _ hi _=>by
      refine vA (zEw _) (by omega) ?_;unfold zNp;rw[xG hi,zH,yV hi,bs]) (by
      unfold zNp;simp)with⟨g1,g2⟩|⟨i,_,hi,g1,g2⟩
    ·rw[show((0:Nat):Int)=0 from rfl]at g1
     have ho:Os x.zA:=⟨by omega,by grind⟩;have hcp:=zME (os:=x.zA) (i:=x.zA.length) ho.2;rw[g1,bs];simp only
     rw[zG6 ho,bs]
     by_cases h7:cp x.zA x.zA.length> 729
     ·rw[aS h7,zH]
      exact .inr ⟨rfl,fun g=>by have:=g.pr;omega⟩
     ·rw[aR h7,zI]
      exact(uZ (f:=(zG (zJf x) 0).bind fun r=>match r with|.inl _=>aN aP|.inr r=>aN r) x.zA.length (zDj x) rfl (by grind[zIG]) (by unfold zJf;simp)).iff ⟨fun g=>⟨⟨ho,hp,hc,g⟩,h6,by omega⟩,fun g=>g.tl⟩
    ·rw[show((0:Nat):Int)=0 from rfl]at g1
     rw[g1,bs];exact .inr ⟨rfl,fun g=>g2 (g.os.2 i hi)⟩
   ·rw[zAf (by omega),zH]
    exact .inr ⟨rfl,fun g=>hc g.cl⟩
  ·rw[zAf (by omega),zH]
   exact .inr ⟨rfl,fun g=>hp g.pl⟩
 ·rw[aS (by omega),zH]
  exact .inr ⟨rfl,fun g=>h6 g.n6⟩
end Go.Pl

namespace Go.Pl
open Go Go.Ab Go.Wk Go.Pc
def lvl(x:SPr)(i:Nat):Lvl:=⟨at0 x.zA i,(x.zW.getD i []).drop (i+1),(x.zB.getD i []).map (·.drop (i+1))⟩
def suf(x:SPr)(k:Nat):Pcp:=(H7 k (x.zA.length-k)).map (lvl x)
theorem xH(x:SPr)(k:Nat):(suf x k).length=x.zA.length-k:=by simp[suf]
theorem yJ{x:SPr}{k:Nat}(h:k<x.zA.length):suf x k=lvl x k::suf x (k+1):=by unfold suf;rw[show x.zA.length-k=(x.zA.length-(k+1))+1 from by omega,Lo,Jg]
theorem sV{x:SPr}{k:Nat}(h:x.zA.length≤k):suf x k=[]:=by unfold suf;simp_all
theorem zAU{os v:List Int}{k:Nat}(h:Exp os v k)(hk:k<os.length):v=zeros (k+1)++v.drop (k+1):=by
 have h1:=h.1.1;apply Kw;intro i;rw[K2];simp only[zeros,Kn,Js,L1];split
 ·rename_i hi
  have h2:=h.2 i (by omega)
  grind
 grind
theorem zPh{x:SPr}:∀(d k:Nat)(v:List Int),k+d=x.zA.length→v.length=d→(∀i,i<d→0≤at0 v i∧at0 v i≤at0 x.zA (k+i)-1)→V (suf x k) v
 |0,k,v,hk,hv,_=>by rw[sV (by omega)];simpa[V]using hv
 |d+1,k,v,hk,hv,h=>by
  rw[yJ (by omega)]
  match v,hv with
  |a::v,hv=>
   have h0:=h 0 (by omega);simp only[at0,Up,U1]at h0;refine⟨⟨h0.1,by simp only[lvl,at0];omega⟩,zPh d (k+1) v (by omega) (by grind) fun i hi=>?_⟩
   grind
theorem zHE{x:SPr}{v:List Int}{k:Nat}(h:Exp x.zA v k)(hk:k<x.zA.length):V (suf x (k+1)) (v.drop (k+1)):=by
 have h1:=h.1.1;refine zPh (x.zA.length-(k+1)) (k+1) _ (by omega) (by grind) fun i hi=>?_
 have:=h.1.2 (k+1+i) (by omega)
 grind
theorem zEx.ok{x:SPr}(h:zEx x):∀(d k:Nat),k+d=x.zA.length→Pc.Ok (suf x k)
 |0,k,hk=>by rw[sV (by omega)];simp only[Pc.Ok]
 |d+1,k,hk=>by
  rw[yJ (by omega)];obtain⟨t1,t2,t3⟩:=h.tl k (by omega);refine⟨by simp only[lvl];have:=(h.os.2 k (by omega)).pos;omega,zHE t1 (by omega),?_,fun c hc=>?_,zEx.ok h d (k+1) (by omega)⟩
  ·grind[xH,lvl]
  ·simp only[lvl,Ja]at hc
   obtain⟨u,hu,rfl⟩:=hc;obtain⟨j,hj,rfl⟩:=L0.1 hu
   grind[zHE]
theorem zEx.okAt{x:SPr}(h:zEx x){k:Nat}(hk:k≤x.zA.length):Pc.Ok (suf x k):=h.ok (x.zA.length-k) k (by omega)
theorem Pres.okAt{x:SPr}(h:Pres x){k:Nat}(hk:k≤x.zA.length):Pc.Ok (suf x k):=h.w.okAt hk
theorem zU(n:Nat):(zeros n).length=n:=by simp[zeros]
theorem zDk(k:Nat):zeros (k+1)=zeros k++[0]:=by simp[zeros,Uh]
theorem zDl{k:Nat}{a b:Int}{v:Vec}:(zeros k++a::v).set k b=zeros k++b::v:=by rw[Ld _ _ (by grind[zU]),zU,K6,K8]
theorem zEy{k:Nat}{a:Int}{v:Vec}:ixO (zeros k++a::v) (k:Int)=aN a:=by rw[wG,Jd (by grind[zU]),zU,K6];rfl
theorem jH{k:Nat}{v:Vec}:zeros k++0::v=zeros (k+1)++v:=by rw[zDk,Jb];rfl
theorem qI{v:List Int}(h:v.length≤1000000):f_X v=aN v:=by grind[f_X,xD]
end Go.Pl

namespace Go.Pl
open Go Go.Ab Go.Wk Go.Pc
theorem zA5{m:Vec→Vec→Vec}:∀(cs:List Vec)(x:Vec)(i:Nat)(acc:Vec),i<cs.length→i<x.length→
  img m (cs.take (i+1)) (x.take (i+1)) acc=iter (at0 x i).toNat (fun v=>m v (cs.getD i [])) (img m (cs.take i) (x.take i) acc)
 | [],_,_,_,h,_=>by simp at h
 |_::_,[],_,_,_,h=>by simp at h
 |c::cs,a::x,0,acc,_,_=>by rfl
 |c::cs,a::x,i+1,acc,h,h'=>by simp only[Kj,img,at0,List.getD_cons_succ];exact zA5 cs x i _ (by grind) (by grind)
theorem xZ{α β:Type}{body:α×Int→Option ((α×Int)⊕α)}{S:β→Prop}(e:β→α)(g:β→β)(n:Int)(hn:0≤n)(hS:∀a,S a→S (g a))
  (h:∀a(i:Nat),S a→(i:Int)<n→body (e a,(i:Int))=aN (.inl (e (g a),((i+1:Nat):Int))))(he:∀a,S a→body (e a,n)=aN (.inr (e a))){a:β}(ha:S a):
  zG body (e a,0)=aN (e (iter n.toNat g a)):=by
 have fy:∀k,S (iter k g a):=fun k=>uO (S:=S) hS k ha
 exact zQ (body:=body) (r:=e (iter n.toNat g a)) (fun i=>(e (iter i g a),(i:Int))) n.toNat (by grind[wJ]) (by grind)
theorem zKK{k i:Nat}{v:Vec}(h:i<v.length):ixO (zeros k++v) ((k+i:Nat):Int)=aN (at0 v i):=by rw[wG,Jd (by grind[zU]),zU,show k+i-k=i from by omega,J5 h,at0,J4,J5 h];rfl
theorem zBB{x:SPr}(ho:Os x.zA):∀(d k:Nat)(v:List Int),k+d=x.zA.length→V (suf x k) v→v.length=d∧ ∀i,i<d→0≤at0 v i∧at0 v i<at0 x.zA (k+i)∧at0 v i≤6
 |0,k,v,hk,hv=>by
  rw[sV (by omega)]at hv;simp only[V]at hv
  grind
 |d+1,k,v,hk,hv=>by
  rw[yJ (by omega)]at hv
  match v,hv with
  |a::v,hv=>
   obtain⟨h1,h2⟩:=zBB ho d (k+1) v (by omega) hv.2;refine⟨by simp[h1],fun i hi=>?_⟩;cases i with
   |zero=>
    have h3:=hv.1;simp only[lvl]at h3;have:=(ho.2 k (by omega)).pos
    grind
   |succ i=>
    grind
theorem zD4{x:SPr}(h:Pres x){k i:Nat}(hk:k<x.zA.length)(hi:i<x.zA.length-(k+1)):
  ∃c,ixO x.zB (k:Int)=aN (x.zB.getD k [])∧ixO (x.zB.getD k []) (i:Int)=aN (zeros (k+1)++c)∧V (suf x (k+1)) c∧(lvl x k).cs.getD i []=c:=by
 obtain⟨t1,t2,t3⟩:=h.tl k hk;have hc:=h.cl
 grind[yC,zHE,zAU,lvl]
def FAt(x:SPr)(k:Nat)(g:SPr→Int→List Int→List Int→Option (List Int)):Prop:=
 ∀a b,V (suf x k) a→V (suf x k) b→g x k (zeros k++a) (zeros k++b)=aN (zeros k++mul (suf x k) a b)
def FIm(x:SPr)(k:Nat)(g:SPr→Int→List Int→Option (List Int)):Prop:=
 ∀v,V (suf x (k+1)) v→g x k (zeros (k+1)++v)=aN (zeros (k+1)++sig (suf x (k+1)) (lvl x k) v)
theorem zIH{x:SPr}(h:Pres x){k:Nat}(hk:k<x.zA.length){g:SPr→Int→List Int→List Int→Option (List Int)}(hg:FAt x (k+1) g):FIm x k (b_d g):=by
 intro v hv;have h6:=h.os.1;have ok:=h.okAt (k:=k+1) (by omega);obtain⟨fF,bC⟩:=zBB h.os (x.zA.length-(k+1)) (k+1) v (by omega) hv;have gg:=xH x (k+1);have gJ:(lvl x k).cs.length=x.zA.length-(k+1):=by have:=h.okAt (k:=k) (by omega);rw[yJ hk]at this;rw[this.2.2.1,gg]
 have gS:∀c∈(lvl x k).cs,V (suf x (k+1)) c:=by have:=h.okAt (k:=k) (by omega);rw[yJ hk]at this;exact this.2.2.2.1
 have hA:∀i,V (suf x (k+1)) (img (mul (suf x (k+1))) ((lvl x k).cs.take i) (v.take i) (zeros (suf x (k+1)).length)):=fun i=>
  sU (xJ ok) _ _ (by grind) (wS ok)
 unfold b_d;rw[yO (by omega),bs,zC (by omega) (by omega),bs,cs];have hz:J1 x.zA.length (0:Int)=zeros (k+1)++zeros (suf x (k+1)).length:=by rw[gg];simp only[zeros,K0];congr 1;omega
 rw[hz];have:=zQ (body:=zNs g x k (zeros (k+1)++v)) (r:=zeros (k+1)++sig (suf x (k+1)) (lvl x k) v)
  (fun i=>(zeros (k+1)++img (mul (suf x (k+1))) ((lvl x k).cs.take i) (v.take i) (zeros (suf x (k+1)).length),((k+1+i:Nat):Int))) (x.zA.length-(k+1)) (fun i hi=>by
  have hr:=bC i hi;obtain⟨c,c1,c2,c3,c4⟩:=zD4 h hk hi;unfold zNs;rw[aS (by omega),zH];rw[xZ (S:=V (suf x (k+1))) (body:=zNr g x k (zeros (k+1)++v) (zeros (k+1)++img (mul (suf x (k+1))) ((lvl x k).cs.take i) (v.take i) (zeros (suf x (k+1)).length),((k+1+i:Nat):Int))) (fun u=>zeros (k+1)++u) (fun u=>mul (suf x (k+1)) u c) (at0 v i) hr.1 (by grind[xJ]) (fun u q hu hq=>by
   unfold zNr;simp only
   rw[zKK (by omega),bs,aS hq,zH,zC (by omega) (by omega),bs,c1,bs,zC (by omega) (by omega),bs,zC (by omega) (by omega),bs,
    show(((k+1+i:Nat):Int)-(k:Int)-1)=(i:Int)from by omega,c2,bs,cs,hg u c hu c3,bs,zC (by omega) (by omega),bs,cs]) (fun u hu=>by
   unfold zNr;simp only
   rw[zKK (by omega),bs,aR (by omega),zI]) (hA i),bs,zC (by omega) (by omega),bs,cs]
  rw[zA5 _ _ _ _ (by omega) (by omega),c4];rfl) (by
  unfold zNs;rw[aR (by omega),zI,Jp (by omega),Jp (by omega)];rfl)
 grind[img]
theorem zPi{x:SPr}(h:Pres x){k:Nat}(hk:k<x.zA.length){g:SPr→Int→List Int→List Int→Option (List Int)}{gi:SPr→Int→List Int→Option (List Int)}(hg:FAt x (k+1) g)(hi:FIm x k gi):FAt x k (b_a gi g):=by
 intro a b ha hb;have h6:=h.os.1;have hp:=(h.os.2 k hk).pos;have ok:=h.okAt (k:=k+1) (by omega);have ok0:=h.okAt (k:=k) (by omega);obtain⟨hal,har⟩:=zBB h.os (x.zA.length-k) k a (by omega) ha;obtain⟨aD,hbr⟩:=zBB h.os (x.zA.length-k) k b (by omega) hb;rw[yJ hk]at ha hb ok0;obtain⟨a0,a,rfl⟩:∃a0 a',a=a0::a':=by cases a with|nil=>grind|cons p q=>simp
 obtain⟨b0,b,rfl⟩:∃a0 a',b=a0::a':=by cases b with|nil=>grind|cons p q=>simp
 obtain⟨⟨a1,a2⟩,ha⟩:=ha;obtain⟨⟨b1,b2⟩,hb⟩:=hb;have eM:(lvl x k).o=at0 x.zA k:=rfl;rw[eM]at a2 b2;unfold b_a;rw[aR (by omega),zI,qI (by grind[zU]),bs,qI (by simp[zU]at aD ⊢;omega),bs,zEy,bs,zEy,bs,Jn,zDl,zDl,jH,jH];have mQ:∀u,V (suf x (k+1)) u→V (suf x (k+1)) (sig (suf x (k+1)) (lvl x k) u):=by grind[zG1]
 have fy:V (suf x (k+1)) (iter b0.toNat (sig (suf x (k+1)) (lvl x k)) a):=uO mQ _ ha;rw[xZ (S:=V (suf x (k+1))) (fun u=>zeros (k+1)++u) (sig (suf x (k+1)) (lvl x k)) b0 b1 mQ (fun u q hu hq=>by
   unfold zPy;simp only
   rw[zEy,bs,aS hq,zH,hi u hu,bs,zC (by omega) (by omega),bs,cs]) (fun u hu=>by
   unfold zPy;simp only
   rw[zEy,bs,aR (by omega),zI]) ha,bs,zC (by omega) (by omega),bs,cs,hg _ _ fy hb,bs,bs,bs,zC (by omega) (by omega),bs,yV hk,bs]
 have hm:=xJ ok fy hb;have bK:=(zBB h.os (x.zA.length-(k+1)) (k+1) _ (by omega) hm).1;have own:∀u,V (suf x (k+1)) u→f_X (zeros (k+1)++u)=aN (zeros (k+1)++u):=fun u hu=>qI (by
  have:=(zBB h.os (x.zA.length-(k+1)) (k+1) _ (by omega) hu).1
  grind[zU])
 rw[yJ hk,yG,eM]
 by_cases hge:a0+b0≥at0 x.zA k
 ·have t1:=(h.tl k hk).1
  have hw:=zHE t1 hk;have hwl:=h.pl;rw[aS hge,zH,if_pos hge,bs,zC (by omega) (by omega),bs,bs,yC [] (by omega),bs,zAU t1 hk,hg _ _ hw hm,bs,own _ (xJ ok hw hm),bs];rw[←jH,zEy,bs,zDl];rfl
 ·rw[aR hge,zI,if_neg hge,own _ hm,bs,←jH,zEy,bs,zDl]
theorem zCP{x:SPr}(h:Pres x):∀(d k:Nat),k+d=x.zA.length→(∀m,2*d+1≤m→FAt x k (zJh m))∧(1≤d→ ∀m,2*d≤m→FIm x k (zJg m))
 |0,k,hk=>by
  refine⟨fun m hm a b ha hb=>?_,fun h=>by omega⟩;have h6:=h.os.1;obtain⟨m,rfl⟩:∃m',m=m'+1:=⟨m-1,by omega⟩;show b_a _ _ x k _ _=_;unfold b_a;rw[aS (by omega),zH,yO (by omega),bs,sV (by omega)]
  grind[mul,zeros]
 |d+1,k,hk=>by
  obtain⟨h1,h2⟩:=zCP h d (k+1) (by omega);have hI:∀m,2*(d+1)≤m→FIm x k (zJg m):=fun m hm=>by obtain⟨m,rfl⟩:∃m',m=m'+1:=⟨m-1,by omega⟩;exact zIH h (by omega) (h1 m (by omega))
  refine⟨fun m hm=>?_,fun _=>hI⟩;obtain⟨m,rfl⟩:∃m',m=m'+1:=⟨m-1,by omega⟩;exact zPi h (by omega) (h1 m (by omega)) (hI m (by omega))
theorem zCl{x:SPr}(h:Pres x){k:Nat}(hk:k≤x.zA.length):FAt x k f_a:=fun a b ha hb=>
 zAx (2*(x.zA.length-k)+1) fun m hm=>(zCP h (x.zA.length-k) k (by omega)).1 m hm a b ha hb
theorem zII{x:SPr}(h:Pres x){k:Nat}(hk:k<x.zA.length):FIm x k f_d:=fun v hv=>
 zAx (2*(x.zA.length-k)) fun m hm=>(zCP h (x.zA.length-k) k (by omega)).2 (by omega) m hm v hv
end Go.Pl

namespace Go.Pl
open Go Go.Ab Go.Wk Go.Pc
theorem zA6:∀{P Q:Pcp},Q<:+P→wK P→wK Q
 | [],Q,h,_=>by grind
 |l::P,Q,h,hc=>by
  rcases Ug.1 h with rfl|h
  ·exact hc
  ·exact zA6 h hc.1
theorem zF4:∀{P Q:Pcp},Q<:+P→Pc.Ok P→Pc.Ok Q
 | [],Q,h,_=>by grind
 |l::P,Q,h,hc=>by
  rcases Ug.1 h with rfl|h
  ·exact hc
  ·exact zF4 h hc.2.2.2.2
theorem zIJ(x:SPr)(k:Nat):suf x (k+1)<:+suf x k:=by grind[yJ,sV]
theorem zA7{x:SPr}{k:Nat}(h:wK (suf x k)):∀i,wK (suf x (k+i))
 |0=>h
 |i+1=>zA6 (zIJ x (k+i)) (zA7 h i)
theorem zA8{x:SPr}(h:Pres x){k:Nat}(hk:k≤x.zA.length)(hc:wK (suf x k)):Grp (V (suf x k)) (mul (suf x k)) (zeros (suf x k).length):=zH4 _ (h.okAt hk) hc
theorem zD5{x:SPr}:∀(i k:Nat)(v:Vec),k+i≤x.zA.length→V (suf x k) v→ ∃q v',v=q++v'∧q.length=i∧V (suf x (k+i)) v'∧
  ∀a b,V (suf x (k+i)) a→V (suf x (k+i)) b→mul (suf x k) (q++a) (zeros i++b)=q++mul (suf x (k+i)) a b
 |0,k,v,_,hv=>⟨[],v,rfl,rfl,hv,fun a b _ _=>rfl⟩
 |i+1,k,v,hk,hv=>by
  rw[yJ (by omega)]at hv
  match v,hv with
  |e::v,hv=>
   obtain⟨q,v',h1,h2,h3,h4⟩:=zD5 i (k+1) v (by omega) hv.2;rw[show k+1+i=k+(i+1)from by omega]at h3 h4;refine⟨e::q,v',by grind,by simp[h2],h3,fun a b ha hb=>?_⟩;have he:=hv.1;rw[yJ (by omega)];show mul (lvl x k::suf x (k+1)) (e::(q++a)) (0::(zeros i++b))=_;rw[yG,Ln,if_neg (by omega)]
   grind[iter]
def FTV(x:SPr)(k:Nat)(g:SPr→List Int→List Int→Option (List Int)):Prop:=
 ∀p v u,p.length=k→V (suf x k) v→V (suf x k) u→g x (p++v) (zeros k++u)=aN (p++mul (suf x k) v u)
def FTG(x:SPr)(k:Nat)(g:SPr→List Int→Int→Option (List Int)):Prop:=
 ∀p v,p.length=k→V (suf x k) v→g x (p++v) (k:Int)=aN (p++mul (suf x k) v (1::zeros (x.zA.length-(k+1))))
theorem zF5{x:SPr}(h:Pres x){k:Nat}(hk:k<x.zA.length){g:SPr→List Int→List Int→Option (List Int)}(hg:FTV x (k+1) g){t:Vec}(ht:V (suf x (k+1)) t)
  {body1:List Int×Int→Int→List Int×Int→Option ((List Int×Int)⊕List Int)}{body2:List Int×Int→Option ((List Int×Int)⊕List Int)}
  (bu:∀s,body2 s=cond (decide (s.2<(t.length:Int))) ((ixO t s.2).bind fun v17=>(zG (body1 s v17) (s.1,0)).bind fun r=>(rng (s.2+1)).bind fun v=>aN (.inl (r,v))) (aN (.inr s.1)))
  (bv:∀s v q,body1 s v q=cond (decide (q.2<v)) ((ixO x.zB (k:Int)).bind fun cl=>(ixO cl s.2).bind fun c=>(g x q.1 c).bind fun r=>(rng (q.2+1)).bind fun w=>aN (.inl (r,w))) (aN (.inr q.1)))
  {p:Vec}(hp:p.length=k+1){u:Vec}(hu:V (suf x (k+1)) u):zG body2 (p++u,0)=aN (p++img (mul (suf x (k+1))) (lvl x k).cs t u):=by
 have h6:=h.os.1;have ok:=h.okAt (k:=k+1) (by omega);have ok0:=h.okAt (k:=k) (by omega);rw[yJ hk]at ok0;obtain⟨t9,mN⟩:=zBB h.os (x.zA.length-(k+1)) (k+1) t (by omega) ht;have gJ:(lvl x k).cs.length=x.zA.length-(k+1):=by rw[ok0.2.2.1,xH]
 have hA:∀i,V (suf x (k+1)) (img (mul (suf x (k+1))) ((lvl x k).cs.take i) (t.take i) u):=fun i=>
  sU (xJ ok) _ _ (fun c hc=>ok0.2.2.2.1 c (by grind)) hu
 have:=zQ (body:=body2) (r:=p++img (mul (suf x (k+1))) (lvl x k).cs t u) (fun i=>(p++img (mul (suf x (k+1))) ((lvl x k).cs.take i) (t.take i) u,(i:Int))) t.length (fun i hi=>by
  have hr:=mN i (by omega);obtain⟨c,c1,c2,c3,c4⟩:=zD4 h hk (i:=i) (by omega);rw[bu];simp only
  rw[xG hi,zH,yV hi,bs];rw[xZ (S:=V (suf x (k+1))) (fun u=>p++u) (fun u=>mul (suf x (k+1)) u c) (at0 t i) hr.1 (by grind[xJ]) (fun u q hu hq=>by
   rw[bv];simp only
   rw[aS hq,zH,c1,bs,c2,bs,hg p u c hp hu c3,bs,zC (by omega) (by omega),bs,cs]) (by grind) (hA i),bs,zC (by omega) (by omega),bs,cs]
  rw[zA5 _ _ _ _ (by omega) (by omega),c4]) (by
  grind)
 grind[img]
theorem zQr{p v:Vec}{a:Int}{k:Nat}(hp:p.length=k):ixO (p++a::v) (k:Int)=aN a:=by rw[wG,Jd (by omega),hp,K6];rfl
theorem p_set{p v:Vec}{a b:Int}{k:Nat}(hp:p.length=k):(p++a::v).set k b=p++b::v:=by simp_all
theorem zHF{x:SPr}(h:Pres x){k:Nat}(hk:k<x.zA.length)(hc:wK (suf x (k+1))){g:SPr→List Int→List Int→Option (List Int)}(hg:FTV x (k+1) g):FTG x k (b_c g):=by
 intro p v hp hv;have h6:=h.os.1;have G:=zA8 h (k:=k+1) (by omega) hc;have ok:=h.okAt (k:=k+1) (by omega);have ok0:=h.okAt (k:=k) (by omega);obtain⟨fF,bC⟩:=zBB h.os (x.zA.length-k) k v (by omega) hv;rw[yJ hk]at hv ok0;obtain⟨e,t,rfl⟩:∃a0 a',v=a0::a':=by cases v with|nil=>grind|cons p q=>simp
 obtain⟨⟨e1,e2⟩,ht⟩:=hv;have eM:(lvl x k).o=at0 x.zA k:=rfl;rw[eM]at e2;have ee:=(h.os.2 k hk).pos;have t9:=(zBB h.os (x.zA.length-(k+1)) (k+1) t (by omega) ht).1;have cM:=xH x (k+1);unfold b_c;have hs:yF (p++e::t) ((k+1:Nat):Int) ((p++e::t).length:Int)=aN t:=by
  unfold yF;rw[if_pos (by grind)];have e3:(p++e::t).drop (k+1)=t:=by rw[List.drop_append,Qd (by omega),hp,show k+1-k=1 from by omega];rfl
  grind[Jn]
 have pT:f_G t=aN t:=by grind[f_G,xD]
 rw[zC (by omega) (by omega),bs,cs,hs,bs,pT,bs];have hz:=zQ (body:=zNC k t) (r:=(p++[e])++zeros t.length) (fun i=>((p++[e])++(zeros i++t.drop i),(i:Int))) t.length (fun i hi=>by
  have hl:((p++[e])++zeros i).length=k+1+i:=by grind[zU]
  unfold zNC;simp only
  rw[xG hi,zH,zC (by omega) (by omega),bs,zC (by omega) (by omega),bs,show(k:Int)+1+(i:Int)=((k+1+i:Nat):Int)from by omega,wG,←Jb,Jd (by omega),hl,K6,
   H6 hi,Gp,bs,zC (by omega) (by omega),bs,cs,Jn,Ld _ _ (by omega),hl,K6,K8,zDk]
  simp) (by
  unfold zNC;simp)
 simp only[zeros,Hf,Jaz,K3,Jb,Kh]at hz;rw[show((0:Nat):Int)=0 from rfl]at hz;rw[hz,bs,Jn,zQr hp,bs,zC (by omega) (by omega),bs,bs,p_set hp,zQr hp,bs,yV hk,bs];have bV:J1 t.length (0:Int)=zeros (suf x (k+1)).length:=by rw[cM,t9];rfl
 rw[yJ hk,yG,eM];have gz:mul (suf x (k+1)) (iter (1:Int).toNat (sig (suf x (k+1)) (lvl x k)) t) (zeros (x.zA.length-(k+1)))=sig (suf x (k+1)) (lvl x k) t:=by rw[←cM];show mul _ (sig (suf x (k+1)) (lvl x k) t) _=_;exact G.oner (zG1 ok0 ht)
 rw[gz,bV]
 by_cases heq:e+1=at0 x.zA k
 ·have t1:=(h.tl k hk).1
  have hw:=zHE t1 hk;have hwl:=h.pl;have bI:(p++[(0:Int)]).length=k+1:=by simp[hp]
  rw[show(e+1==at0 x.zA k)=aP from by grind,zH,if_pos (by omega),bs,yC [] (by omega),bs,p_set hp];have bU:p++0::zeros (suf x (k+1)).length=(p++[0])++zeros (suf x (k+1)).length:=by simp
  rw[bU,zAU t1 hk,hg _ _ _ bI G.ein hw,bs,G.onel hw];rw[zF5 (body1:=zRz g x k) (body2:=zR0 g x k t) h hk hg ht (fun _=>rfl) (fun _ _ _=>rfl) bI hw,bs];rw[zCj G.toMon _ _ ok0.2.2.2.1 hw,show e+1-at0 x.zA k=0 from by omega];simp only[Jb,Kh];rfl
 ·have bI:(p++[e+1]).length=k+1:=by simp[hp]
  rw[show(e+1==at0 x.zA k)=aQ from by grind,zI,if_neg (by omega)];have bU:p++(e+1)::zeros (suf x (k+1)).length=(p++[e+1])++zeros (suf x (k+1)).length:=by simp
  rw[bU,zF5 (body1:=zR1 g x k) (body2:=zR2 g x k t) h hk hg ht (fun _=>rfl) (fun _ _ _=>rfl) bI G.ein,bs];simp only[Jb,Kh];rfl
theorem zD6{n i:Nat}(h:i<n):tF n i=zeros i++1::zeros (n-(i+1)):=by
 have:zeros n=zeros i++0::zeros (n-(i+1)):=by
  simp only[zeros];rw[←Jz,K0]
  grind
 grind[tF,zDl]
theorem zCm(n:Nat):(uM n).length=n:=by simp[uM]
theorem zIK{n i:Nat}(h:i<n):(uM n).getD i []=tF n i:=by simp[uM,J4,h]
theorem zMF{x:SPr}(h:Pres x){k:Nat}(hk:k≤x.zA.length)(hc:wK (suf x k)){g:SPr→List Int→Int→Option (List Int)}(hg:∀j,k≤j→j<x.zA.length→FTG x j g):FTV x k (b_b g):=by
 intro p v u hp hv hu;have h6:=h.os.1;have G:=zA8 h hk hc;have ok:=h.okAt hk;obtain⟨hul,hur⟩:=zBB h.os (x.zA.length-k) k u (by omega) hu;have cM:=xH x k;have hV1:∀j,j≤x.zA.length→j<x.zA.length→V (suf x j) (1::zeros (x.zA.length-(j+1))):=fun j hj ft=>by rw[yJ ft];have:=(h.os.2 j ft).pos;refine⟨⟨by omega,by show 1<at0 x.zA j;omega⟩,?_⟩;rw[←xH];exact wS (h.okAt (by omega))
 have hUn:∀i,i<x.zA.length-k→V (suf x k) (tF (x.zA.length-k) i):=by grind[zCK]
 have hUs:∀c∈uM (x.zA.length-k),V (suf x k) c:=fun c hc=>by
  simp only[uM,Ja,Kd]at hc
  grind
 have hA:∀i,V (suf x k) (img (mul (suf x k)) ((uM (x.zA.length-k)).take i) (u.take i) v):=fun i=>
  sU (xJ ok) _ _ (by grind) hv
 have ar:∀i w,i<x.zA.length-k→V (suf x k) w→g x (p++w) ((k+i:Nat):Int)=aN (p++mul (suf x k) w (tF (x.zA.length-k) i)):=fun i w hi hw=>by obtain⟨q,w',h1,h2,h3,h4⟩:=zD5 i k w (by omega) hw;have h5:=hg (k+i) (by omega) (by omega) (p++q) w' (by grind) h3;rw[Jb,←h1]at h5;rw[h5,zD6 hi,h1,show x.zA.length-k-(i+1)=x.zA.length-(k+i+1)from by omega,h4 w' _ h3 (hV1 (k+i) (by omega) (by omega)),Jb]
 unfold b_b;have mL:(zeros k++u).length=x.zA.length:=by grind[zU]
 have:=zQ (body:=zNE g x (zeros k++u)) (r:=p++mul (suf x k) v u) (fun j=>(p++img (mul (suf x k)) ((uM (x.zA.length-k)).take (j-k)) (u.take (j-k)) v,(j:Int))) x.zA.length (fun j hj=>by
  unfold zNE;simp only
  rw[mL,xG hj,zH];rcases Hv j k with hjk|hjk
  ·have e0:ixO (zeros k++u) (j:Int)=aN 0:=by
    rw[wG,K5 (by grind)]
    grind[zeros]
   rw[e0,bs,show j-k=0 from by omega,show j+1-k=0 from by omega];rw[yU];unfold zND;simp only
   rw[show decide ((0:Int)<0)=aQ from rfl,zI];simp only
   rw[bs,zC (by omega) (by omega),bs,cs]
  ·obtain⟨i,rfl⟩:∃i,j=k+i:=⟨j-k,by omega⟩
   have hi:i<x.zA.length-k:=by omega
   have hr:=hur i hi;rw[zKK (by omega),bs,show k+i-k=i from by omega,show k+i+1-k=i+1 from by omega];rw[xZ (S:=V (suf x k)) (fun w=>p++w) (fun w=>mul (suf x k) w (tF (x.zA.length-k) i)) (at0 u i) hr.1 (by grind[xJ]) (fun w q hw hq=>by
    unfold zND;simp only
    rw[aS hq,zH,ar i w hi hw,bs,zC (by omega) (by omega),bs,cs]) (fun w hw=>by
    unfold zND;simp) (hA i),bs,zC (by omega) (by omega),bs,cs]
   rw[zA5 _ _ _ _ (by grind[zCm]) (by omega),zIK hi]) (by
  unfold zNE;simp only
  rw[mL,jG,zI,Jp (by grind[zCm]),Jp (by omega),zCj G.toMon _ _ hUs hv];have hn:=normal (suf x k) ok (fun Q hQ=>(zH4 Q (zF4 hQ ok) (zA6 hQ hc)).toMon) u hu
  grind)
 simp only[Jaq,Kg,img]at this
 grind
theorem zCQ{x:SPr}(h:Pres x):∀(d k:Nat),k+d=x.zA.length→wK (suf x k)→(∀m,2*d+1≤m→FTV x k (zLi m))
 |d,k,hk,hc=>fun m hm=>by
  obtain⟨m,rfl⟩:∃m',m=m'+1:=⟨m-1,by omega⟩;refine zMF h (by omega) hc fun j hj fq=>?_
  obtain⟨m,rfl⟩:∃m',m=m'+1:=⟨m-1,by omega⟩;have pU:wK (suf x (j+1)):=by
   have:=zA7 hc (j+1-k)
   grind
  exact zHF h fq pU (zCQ h (x.zA.length-(j+1)) (j+1) (by omega) pU m (by omega))
 termination_by d=>d
 decreasing_by omega
theorem zPj{x:SPr}(h:Pres x){k:Nat}(hk:k≤x.zA.length)(hc:wK (suf x k)):FTV x k f_b:=fun p v u hp hv hu=>
 zAx (2*(x.zA.length-k)+1) fun m hm=>zCQ h (x.zA.length-k) k (by omega) hc m hm p v u hp hv hu
theorem zPk{x:SPr}(h:Pres x){k:Nat}(hk:k<x.zA.length)(hc:wK (suf x (k+1))):FTG x k f_c:=fun p v hp hv=>
 zAx (2*(x.zA.length-k)) fun m hm=>by obtain⟨m,rfl⟩:∃m',m=m'+1:=⟨m-1,by omega⟩;exact zHF h hk hc (zCQ h (x.zA.length-(k+1)) (k+1) (by omega) hc m (by omega)) p v hp hv
end Go.Pl

namespace Go.Pl
open Go Go.Ab Go.Wk Go.Pc
abbrev fv(k:Nat)(v:Vec):Vec:=zeros k++v
section
variable {x:SPr} (h:Pres x) {k:Nat} (hk:k≤x.zA.length) (hc:wK (suf x k))
 include h hk
theorem zHG{v:Vec}(hv:V (suf x k) v):v.length=x.zA.length-k:=(zBB h.os (x.zA.length-k) k v (by omega) hv).1
theorem zBC{v:Vec}(hv:V (suf x k) v):(fv k v).length=x.zA.length:=by grind[zU,zHG]
theorem zHH:J1 x.zA.length (0:Int)=fv k (zeros (suf x k).length):=by
 have _:=h;rw[xH];simp only[fv,zeros,K0];grind
 include hc
theorem zIL{i:Nat}(hi:i<x.zA.length-k):V (suf x k) (tF (x.zA.length-k) i):=by
 have _:=hc;have:=xH x k;rw[←this]at hi ⊢
 exact zCK (h.okAt hk) hi
theorem zHI{p:Vec}(hp:p.length=k){i:Nat}(hi:i<x.zA.length-k){w:Vec}(hw:V (suf x k) w):f_c x (p++w) ((k+i:Nat):Int)=aN (p++mul (suf x k) w (tF (x.zA.length-k) i)):=by
 obtain⟨q,w',h1,h2,h3,h4⟩:=zD5 i k w (by omega) hw;have pU:wK (suf x (k+i+1)):=zA7 hc (i+1);have h5:=zPk h (k:=k+i) (by omega) pU (p++q) w' (by grind) h3;have h7:V (suf x (k+i)) (1::zeros (x.zA.length-(k+i+1))):=by
  have ft:k+i<x.zA.length:=by omega
  rw[yJ ft];have:=(h.os.2 (k+i) ft).pos;refine⟨⟨by omega,by show 1<at0 x.zA (k+i);omega⟩,?_⟩;rw[←xH];exact wS (h.okAt (by omega))
 grind[zD6]
theorem zCn{a b:Vec}(ha:V (suf x k) a)(hb:V (suf x k) b):f_b x (fv k a) (fv k b)=aN (fv k (mul (suf x k) a b)):=
 zPj h hk hc (zeros k) a b (zU k) ha hb
theorem zEz{a:Vec}(ha:V (suf x k) a):f_G (fv k a)=aN (fv k a):=by
 have _:=hc;have:=zBC h hk ha;have h6:=h.os.1
 grind[f_G,xD]
theorem zBm{a b:Vec}(ha:V (suf x k) a)(hb:V (suf x k) b):f_Y x (fv k a) (fv k b)=aN (fv k (mul (suf x k) a b)):=by grind[f_Y,zEz,zCn]
theorem zE0{c:Vec}(eA:V (suf x k) c){e:Int}(e0:0≤e)(e1:e≤1000):f_r x (fv k c) e=aN (fv k (pw (mul (suf x k)) (zeros (suf x k).length) c e.toNat)):=by
 have h6:=h.os.1;have ok:=h.okAt hk;unfold f_r;rw[zBC h hk eA,yO (by omega),bs,zHH h hk];rw[xZ (S:=V (suf x k)) (body:=zNG x (fv k c) e) (fun u=>fv k u) (fun u=>mul (suf x k) u c) e e0 (by grind[xJ]) (fun u i hu hi=>by
  unfold zNG;simp only
  rw[aS hi,zH,zCn h hk hc hu eA,bs,zC (by omega) (by omega),bs,cs]) (fun u hu=>by
  unfold zNG;simp) (wS ok),bs]
 rfl
theorem zDm{v:Vec}(hv:V (suf x k) v):∃w,V (suf x k) w∧mul (suf x k) v w=zeros (suf x k).length∧f_s x (fv k v)=aN (fv k w):=by
 have h6:=h.os.1;have ok:=h.okAt hk;have G:=zA8 h hk hc;have fF:=zBC h hk hv;have cM:=xH x k;unfold f_s;rw[zEz h hk hc hv,bs,fF,yO (by omega),bs,zHH h hk]
 let I:Nat→(List Int×List Int×Int)→Prop:=fun j s=> ∃A w,s=(fv k A,fv k w,(j:Int))∧V (suf x k) A∧V (suf x k) w∧mul (suf x k) v w=A∧ ∃A',A=zeros (j-k)++A'
 have key:=vL (body:=zNJ x (fv k v)) (Q:=fun r=> ∃w,V (suf x k) w∧mul (suf x k) v w=zeros (suf x k).length∧r=fv k w) I x.zA.length (fun j s hj hI=>by
  obtain⟨A,w,rfl,hA,hw,hm,A',hA'⟩:=hI;left;unfold zNJ;simp only
  rw[fF,xG hj,zH];rcases Hv j k with hjk|hjk
  ·have e0:ixO (fv k A) (j:Int)=aN 0:=by
    grind[wG,zeros]
   rw[yU];unfold zLj;simp only
   rw[e0,bs,show((0:Int) != 0)=aQ from rfl,zI];simp only
   rw[bs,zC (by omega) (by omega),bs,cs]
   grind
  ·obtain⟨i,rfl⟩:∃i,j=k+i:=⟨j-k,by omega⟩
   have hi:i<x.zA.length-k:=by omega
   rw[show k+i-k=i from by omega]at hA';have p8:=zHG h hk hA;obtain⟨a0,A',rfl⟩:∃p q,A'=p::q:=by
    cases A' with
    |nil=>grind[zU]
    |cons p q=>simp
   have ee:=(h.os.2 (k+i) hj).pos;have inner:=vL (body:=zLj x (fv k A,fv k w,((k+i:Nat):Int))) (s:=(fv k A,fv k w))
    (Q:=fun r=> ∃B u,r=(fv k B,fv k u)∧V (suf x k) B∧V (suf x k) u∧mul (suf x k) v u=B∧ ∃B',B=zeros (i+1)++B')
    (fun q s=> ∃B u b B',s=(fv k B,fv k u)∧V (suf x k) B∧V (suf x k) u∧mul (suf x k) v u=B∧B=zeros i++b::B'∧(b=0∨b=a0+q)) 10 (fun q s hq hs=>by
     obtain⟨B,u,b,B',rfl,hB,hu,mm,cb,hb⟩:=hs;have hz:ixO (fv k B) ((k+i:Nat):Int)=aN b:=by rw[fv,zKK (by grind[zHG]),cb,at0,J4,Jd (by rw[zU];omega),zU,K6];rfl
     unfold zLj;simp only
     rw[hz,bs]
     by_cases aF:b=0
     ·subst aF
      right;rw[show((0:Int) != 0)=aQ from rfl,zI];exact⟨_,rfl,B,u,rfl,hB,hu,mm,B',by rw[cb,jH]⟩
     ·left
      have hbq:b=a0+q:=by omega
      rw[show(b != 0)=aP from by grind,zH,zHI h hk hc (zU k) hi hB,bs,zHI h hk hc (zU k) hi hu,bs];have hU:=zIL h hk hc hi;obtain⟨q',v',h1,h2,h3,h4⟩:=zD5 i k B (by omega) hB;have hqv:q'=zeros i∧v'=b::B':=by grind[List.append_inj,zU]
      obtain⟨rfl,rfl⟩:=hqv;have h7:V (suf x (k+i)) (1::zeros (x.zA.length-(k+i+1))):=by rw[yJ hj];refine⟨⟨by omega,by show 1<at0 x.zA (k+i);omega⟩,?_⟩;rw[←xH];exact wS (h.okAt (by omega))
      have h8:=h4 (b::B') _ h3 h7;rw[show x.zA.length-(k+i+1)=x.zA.length-k-(i+1)from by omega,←zD6 hi,←h1,yJ hj,yG]at h8;refine⟨_,rfl,mul (suf x k) B (tF (x.zA.length-k) i),mul (suf x k) u (tF (x.zA.length-k) i),?_⟩;have eM:(lvl x (k+i)).o=at0 x.zA (k+i):=rfl;rw[eM]at h8
      by_cases hge:b+1≥at0 x.zA (k+i)
      ·rw[if_pos hge]at h8
       refine⟨_,_,rfl,xJ ok hB hU,xJ ok hu hU,?_,h8,?_⟩
       ·rw[←G.assoc hv hu hU,mm]
       ·left
        rw[yJ hj]at h3;have:=h3.1.2;omega
      ·rw[if_neg hge]at h8
       refine⟨_,_,rfl,xJ ok hB hU,xJ ok hu hU,?_,h8,?_⟩
       ·rw[←G.assoc hv hu hU,mm]
       omega) (fun s hs=>by
     obtain⟨B,u,b,B',rfl,hB,hu,mm,cb,hb⟩:=hs;have hz:ixO (fv k B) ((k+i:Nat):Int)=aN b:=by rw[fv,zKK (by grind[zHG]),cb,at0,J4,Jd (by rw[zU];omega),zU,K6];rfl
     have hbr:=(zBB h.os (x.zA.length-k) k B (by omega) hB).2 i hi;have ha:=(zBB h.os (x.zA.length-k) k A (by omega) hA).2 i hi;have e1:at0 B i=b:=by rw[cb,at0,J4,Jd (by grind[zU]),zU,K6];rfl
     have e2:at0 A i=a0:=by rw[hA',at0,J4,Jd (by grind[zU]),zU,K6];rfl
     have aF:b=0:=by omega
     subst aF;unfold zLj;simp only
     rw[hz,bs,show((0:Int) != 0)=aQ from rfl,zI];exact⟨_,rfl,B,u,rfl,hB,hu,mm,B',by rw[cb,jH]⟩) (by grind)
   obtain⟨r,r1,B,u,rfl,hB,hu,mm,B',cb⟩:=inner;rw[r1,bs,zC (by omega) (by omega),bs,cs]
   grind) (fun s hI=>by
  obtain⟨A,w,rfl,hA,hw,hm,A',hA'⟩:=hI;unfold zNJ;simp only
  rw[fF,jG,zI];refine⟨_,rfl,w,hw,?_,rfl⟩;have p8:=zHG h hk hA;rw[hA',J9,zU]at p8
  grind) (s:=(fv k v,fv k (zeros (suf x k).length),0))
  ⟨v,_,rfl,hv,wS ok,G.oner hv,v,by rw[Jaq];rfl⟩
 grind
theorem qJ{a b:Vec}(ha:V (suf x k) a)(hb:V (suf x k) b):∃c,V (suf x k) c∧mul (suf x k) b c=mul (suf x k) a b∧zLk x (fv k a) (fv k b)=aN (fv k c):=by
 have ok:=h.okAt hk;have G:=zA8 h hk hc;obtain⟨w,hw,hm,h1⟩:=zDm h hk hc hb;have ca:=xJ ok ha hb;refine⟨mul (suf x k) w (mul (suf x k) a b),xJ ok hw ca,?_,?_⟩
 ·rw[←G.assoc hb hw ca,hm,G.onel ca]
 grind[zLk,zBm]
end
theorem zBD{a b:List Int}(h:a.length≤1000000):f_O a b=aN (a==b):=
 zF3 (t:=fun u v=>aN (u==v)) (body:=zR3 a b) rfl (fun _=>rfl) (by omega) fun _ _ _ _=>rfl
theorem zKL{a b:List Int}(h:a.length≤1000000):f_Z a b=aN (a==b):=zBD h
end Go.Pl

namespace Go.Pl
open Go Go.Ab Go.Wk Go.Pc
theorem zHJ{ρ:Type}{body:Int→Option (Int⊕(Unit⊕ρ))}(n i0:Nat)(hn:i0≤n)(P:Nat→Prop)(B:ρ→Prop)
  (h:∀i,i0≤i→i<n→(∀j,i0≤j→j<i→P j)→(body (i:Int)=aN (.inl ((i+1:Nat):Int))∧P i)∨(∃r,body (i:Int)=aN (.inr (.inr r))∧B r∧ ¬P i))
  (he:body (n:Int)=aN (.inr (.inl ()))):
  (zG body (i0:Int)=aN (.inl ())∧ ∀j,i0≤j→j<n→P j)∨ ∃r i,i0≤i∧i<n∧zG body (i0:Int)=aN (.inr r)∧B r∧ ¬P i:=by
 have key:∀k i,i0≤i→i+k=n→(∀j,i0≤j→j<i→P j)→(zG body (i:Int)=aN (.inl ())∧ ∀j,i0≤j→j<n→P j)∨ ∃r q,i0≤q∧q<n∧zG body (i:Int)=aN (.inr r)∧B r∧ ¬P q:=by
  intro k
  induction k with
  |zero=>
   intro i hi hk hp;obtain rfl:i=n:=by omega
   grind[yU]
  |succ k ih=>
   intro i hi hk hp;rcases h i hi (by omega) hp with⟨h1,h2⟩|⟨r,h1,h2,h3⟩
   ·have:=ih (i+1) (by omega) (by omega) (by grind)
    rw[yU,h1];exact this
   ·exact .inr ⟨r,i,hi,by omega,by rw[yU,h1],h2,h3⟩
 exact key (n-i0) i0 (Ji _) (by omega) fun j a b=>by omega
theorem wN{σ ρ:Type}{body:σ→Option (σ⊕ρ)}{Q:ρ→Prop}(I:σ→Prop)(m:σ→Nat)
  (h:∀s,I s→(∃s',body s=aN (.inl s')∧I s'∧m s'<m s)∨ ∃r,body s=aN (.inr r)∧Q r):∀(k:Nat)(s:σ),m s≤k→I s→ ∃r,zG body s=aN r∧Q r
 |k,s,hk,hs=>by
  rcases h s hs with⟨s',h1,h2,h3⟩|⟨r,h1,h2⟩
  ·cases k with
   |zero=>omega
   |succ k=>
    obtain⟨r,h4,h5⟩:=wN I m h k s' (by omega) h2
    grind[yU]
  grind[yU]
theorem zRo{k:Nat}{a b:Vec}:(fv k a==fv k b)=aP↔a=b:=by simp
theorem zE1{x:SPr}{v:List Int}{i k:Nat}(h:Exp x.zA v i)(hk:k≤i+1)(hn:k≤x.zA.length):v=fv k (v.drop k)∧V (suf x k) (v.drop k):=by
 have h1:=h.1.1;constructor
 ·apply Kw
  intro j;rw[fv,K2];simp only[zeros,Kn,Js,L1];split
  ·rename_i hj
   have h2:=h.2 j (by omega)
   grind
  grind
 ·refine zPh (x.zA.length-k) k _ (by omega) (by grind) fun j hj=>?_
  have:=h.1.2 (k+j) (by omega)
  grind
structure LC (x:SPr) (k:Nat):Prop where
 c1:∀j,k+1≤j→j<x.zA.length→pw (mul (suf x (k+1))) (zeros (suf x (k+1)).length) ((lvl x k).cs.getD (j-(k+1)) []) (at0 x.zA j).toNat=sig (suf x (k+1)) (lvl x k) ((x.zW.getD j []).drop (k+1))
 c2:∀i,k+1≤i→i<x.zA.length→ ∀j,i+1≤j→j<x.zA.length→
  mul (suf x (k+1)) ((lvl x k).cs.getD (j-(k+1)) []) ((lvl x k).cs.getD (i-(k+1)) [])=mul (suf x (k+1)) ((lvl x k).cs.getD (i-(k+1)) []) (sig (suf x (k+1)) (lvl x k) (((x.zB.getD i []).getD (j-(i+1)) []).drop (k+1)))
 c3:sig (suf x (k+1)) (lvl x k) (lvl x k).w=(lvl x k).w
 c4:∀j,k+1≤j→j<x.zA.length→mul (suf x (k+1)) (lvl x k).w (iter (lvl x k).o.toNat (sig (suf x (k+1)) (lvl x k)) (tF (x.zA.length-(k+1)) (j-(k+1))))=mul (suf x (k+1)) (tF (x.zA.length-(k+1)) (j-(k+1))) (lvl x k).w
section
variable {x:SPr} (h:Pres x) {k:Nat} (hk:k<x.zA.length) (hc:wK (suf x (k+1)))
 include h hk
theorem jZ{j:Nat}(h1:k+1≤j)(h2:j<x.zA.length):ixO x.zB (k:Int)=aN (x.zB.getD k [])∧ixO (x.zB.getD k []) ((j:Int)-(k:Int)-1)=aN (fv (k+1) ((lvl x k).cs.getD (j-(k+1)) []))∧V (suf x (k+1)) ((lvl x k).cs.getD (j-(k+1)) []):=by
 obtain⟨c,c1,c2,c3,c4⟩:=zD4 h hk (i:=j-(k+1)) (by omega)
 grind
theorem zMG{j:Nat}(h1:k+1≤j)(h2:j<x.zA.length):ixO x.zW (j:Int)=aN (fv (k+1) ((x.zW.getD j []).drop (k+1)))∧V (suf x (k+1)) ((x.zW.getD j []).drop (k+1)):=by
 have t1:=(h.tl j h2).1;have hl:=h.pl
 grind[zE1,yC]
theorem zQs{i j:Nat}(h1:k+1≤i)(h2:i+1≤j)(h3:j<x.zA.length):ixO x.zB (i:Int)=aN (x.zB.getD i [])∧ixO (x.zB.getD i []) ((j:Int)-(i:Int)-1)=aN (fv (k+1) (((x.zB.getD i []).getD (j-(i+1)) []).drop (k+1)))∧V (suf x (k+1)) (((x.zB.getD i []).getD (j-(i+1)) []).drop (k+1)):=by
 obtain⟨_,t2,t3⟩:=h.tl i (by omega)
 grind[zE1,yC]
theorem zRp:ixO x.zW (k:Int)=aN (fv (k+1) (lvl x k).w)∧V (suf x (k+1)) (lvl x k).w:=by have t1:=(h.tl k hk).1;have hl:=h.pl;obtain⟨e1,e2⟩:=zE1 (k:=k+1) t1 (by omega) (by omega);exact⟨by rw[yC [] (by omega)];exact congrArg aN e1,e2⟩
theorem zQt{v:Vec}(hv:V (suf x (k+1)) v):V (suf x (k+1)) (sig (suf x (k+1)) (lvl x k) v):=by
 have ok0:=h.okAt (k:=k) (by omega)
 grind[yJ,zG1]
theorem zF6{j:Nat}(h1:k+1≤j)(h2:j<x.zA.length):zNK (x.zA.length:Int) (j:Int)=aN (fv (k+1) (tF (x.zA.length-(k+1)) (j-(k+1)))):=by
 have h6:=h.os.1;unfold zNK;rw[yO (by omega),bs,wG,Js,if_pos h2,bs,Jn]
 congr 1
 rw[fv,zD6 (by omega),←Jb];have e1:zeros (k+1)++zeros (j-(k+1))=zeros j:=by grind[zeros,K0]
 have e2:J1 x.zA.length (0:Int)=zeros j++0::zeros (x.zA.length-(j+1)):=by simp only[zeros];rw[←Jz,K0];grind
 grind[zDl]
theorem zKM{j:Nat}(h1:k+1≤j)(h2:j<x.zA.length):zRw (x.zA.length:Int) (j:Int)=aN (fv (k+1) (tF (x.zA.length-(k+1)) (j-(k+1)))):=zF6 h hk h1 h2
 include hc
theorem sW{v:Vec}(hv:V (suf x (k+1)) v):f_t x k (fv (k+1) v)=aN (fv (k+1) (sig (suf x (k+1)) (lvl x k) v)):=by
 have h6:=h.os.1;have ok:=h.okAt (k:=k+1) (by omega);have ok0:=h.okAt (k:=k) (by omega);rw[yJ hk]at ok0;obtain⟨fF,bC⟩:=zBB h.os (x.zA.length-(k+1)) (k+1) v (by omega) hv;have gJ:(lvl x k).cs.length=x.zA.length-(k+1):=by rw[ok0.2.2.1,xH]
 have t2:=(h.tl k hk).2.1;have aA:=h.cl;have hA:∀i,V (suf x (k+1)) (img (mul (suf x (k+1))) ((lvl x k).cs.take i) (v.take i) (zeros (suf x (k+1)).length)):=fun i=>
  sU (xJ ok) _ _ (fun c hc=>ok0.2.2.2.1 c (by grind)) (wS ok)
 unfold f_t;rw[zBC h (by omega) hv,yO (by omega),bs,yC [] (by omega),bs,zHH h (k:=k+1) (by omega)];have:=zQ (body:=zNI x k (fv (k+1) v) (x.zB.getD k [])) (r:=fv (k+1) (sig (suf x (k+1)) (lvl x k) v))
  (fun i=>(fv (k+1) (img (mul (suf x (k+1))) ((lvl x k).cs.take i) (v.take i) (zeros (suf x (k+1)).length)),(i:Int))) (x.zB.getD k []).length (fun i hi=>by
  have hr:=bC i (by omega);obtain⟨c,c1,c2,c3,c4⟩:=zD4 h hk (i:=i) (by omega);unfold zNI;simp only
  rw[xG hi,zH,c2,bs,zC (by omega) (by omega),bs,zC (by omega) (by omega),bs,show(k:Int)+1+(i:Int)=((k+1+i:Nat):Int)from by omega,fv,zKK (by omega),bs];rw[xZ (S:=V (suf x (k+1))) (body:=zNH x (zeros (k+1)++c) (at0 v i)) (fun u=>fv (k+1) u) (fun u=>mul (suf x (k+1)) u c) (at0 v i) hr.1 (by grind[xJ]) (fun u q hu hq=>by
   unfold zNH;simp only
   rw[aS hq,zH,zCn h (by omega) hc hu c3,bs,zC (by omega) (by omega),bs,cs]) (fun u hu=>by
   unfold zNH;simp) (hA i),bs,zC (by omega) (by omega),bs,cs]
  rw[zA5 _ _ _ _ (by omega) (by omega),c4]) (by
  unfold zNI;simp only
  rw[jG,zI,Jp (by omega),Jp (by omega)];rfl)
 simp only[Kg,img]at this
 grind
theorem zA9{a b:Vec}(ha:V (suf x (k+1)) a):IsB (f_O (fv (k+1) a) (fv (k+1) b)) (a=b):=by
 have _:=hc;have h6:=h.os.1
 grind[zBD,zBC,IsB.of_bool,zRo]
theorem zHK{c:Vec}(eA:V (suf x (k+1)) c){e:Int}(e0:0≤e)(e1:e≤1000):f_H x ((k+1:Nat):Int) (fv (k+1) c) e=aN (fv (k+1) (pw (mul (suf x (k+1))) (zeros (suf x (k+1)).length) c e.toNat)):=by
 have h6:=h.os.1;have ok:=h.okAt (k:=k+1) (by omega);have G:=zA8 h (k:=k+1) (by omega) hc;have hA:=zCl h (k:=k+1) (by omega);have pwV:∀a,V (suf x (k+1)) (pw (mul (suf x (k+1))) (zeros (suf x (k+1)).length) c a):=fun a=>xN G.toMon eA a
 unfold f_H;rw[yO (by omega),bs,zHH h (k:=k+1) (by omega)];obtain⟨r,r1,r2⟩:=wN (body:=zLf x ((k+1:Nat):Int)) (Q:=fun r=>r=fv (k+1) (pw (mul (suf x (k+1))) (zeros (suf x (k+1)).length) c e.toNat))
  (fun s=> ∃(m a q:Nat),s=((m:Int),fv (k+1) (pw (mul (suf x (k+1))) (zeros (suf x (k+1)).length) c a),fv (k+1) (pw (mul (suf x (k+1))) (zeros (suf x (k+1)).length) c q))∧a+q*m=e.toNat∧m≤1000) (fun s=>s.1.toNat) (fun s ⟨m,a,q,hs,he,hm⟩=>by
   subst hs;unfold zLf;simp only
   by_cases hm0:m=0
   ·grind
   ·left
    have hr:vU (m:Int) 2=aN ((m%2:Nat):Int):=by rfl
    have hq:tQ (m:Int) 2=aN ((m/2:Nat):Int):=by
     unfold tQ;rw[if_neg (by decide),Um (by omega)]
     grind[zC]
    have bP:=Nat.div_add_mod m 2;have cP:mul (suf x (k+1)) (pw (mul (suf x (k+1))) (zeros (suf x (k+1)).length) c q) (pw (mul (suf x (k+1))) (zeros (suf x (k+1)).length) c q)=pw (mul (suf x (k+1))) (zeros (suf x (k+1)).length) c (q+q):=(jF G.toMon eA q q).symm;rw[aS (by omega),zH,hr,bs];rcases Nat.mod_two_eq_zero_or_one m with h2|h2
    ·rw[h2,show((((0:Nat):Int))==1)=aQ from rfl,zI,hA _ _ (pwV q) (pwV q),bs,hq,bs,cP]
     refine⟨_,rfl,⟨m/2,a,q+q,rfl,?_,by omega⟩,by omega⟩
     grind
    ·rw[h2,show((((1:Nat):Int))==1)=aP from rfl,zH,hA _ _ (pwV a) (pwV q),bs,hA _ _ (pwV q) (pwV q),bs,hq,bs,cP,←jF G.toMon eA a q]
     refine⟨_,rfl,⟨m/2,a+q,q+q,rfl,?_,by omega⟩,by omega⟩
     grind) 1000000 (e,fv (k+1) (zeros (suf x (k+1)).length),fv (k+1) c) (by omega) ⟨e.toNat,0,1,by rw[zG0 G.toMon eA,show((e.toNat:Nat):Int)=e from by omega];rfl,by omega,by omega⟩
 grind
end
end Go.Pl

namespace Go.Pl
open Go Go.Ab Go.Wk Go.Pc
def zTi(o:Option yH)(P:Prop):Prop:=(o=aN (yH.mk 0 0 0 0)∧P)∨ ∃r,o=aN r∧r.Kind≠0∧ ¬P
theorem kb{a b c d:Int}(h:a≠0):(yH.mk a b c d).Kind≠0:=h
abbrev KB(r:yH):Prop:=r.Kind≠0
theorem kA{o:Option Bool}{P:Prop}{bad:yH}{i:Nat}{g:Option (Int⊕(Unit⊕yH))}(h:IsB o P)(hi:i<9223372036854775807)(hbad:bad.Kind≠0)
  (hg:g=o.bind fun r=>cond (!r) (aN (.inr (.inr bad))) ((rng ((i:Int)+1)).bind fun v=>aN (.inl v))):(g=aN (.inl ((i+1:Nat):Int))∧P)∨(∃r,g=aN (.inr (.inr r))∧KB r∧ ¬P):=by
 rcases vA h hi hg with h|⟨h1,h2⟩
 all_goals grind
section
variable {x:SPr} (h:Pres x) {k:Nat} (hk:k<x.zA.length) (hc:wK (suf x (k+1)))
 include h hk hc
theorem zIM:zTi (f_f x k) (LC x k):=by
 have h6:=h.os.1;have ok:=h.okAt (k:=k+1) (by omega);have G:=zA8 h (k:=k+1) (by omega) hc;obtain⟨w1,w2⟩:=zRp h hk;have cm:∀v,V (suf x (k+1)) v→V (suf x (k+1)) (sig (suf x (k+1)) (lvl x k) v):=by grind[zQt]
 unfold f_f;rw[zC (by omega) (by omega),bs,cs];rcases zHJ (body:=zNL x k) x.zA.length (k+1) (by omega) (fun j=>pw (mul (suf x (k+1))) (zeros (suf x (k+1)).length) ((lvl x k).cs.getD (j-(k+1)) []) (at0 x.zA j).toNat=sig (suf x (k+1)) (lvl x k) ((x.zW.getD j []).drop (k+1))) KB (fun j h1 h2 _=>by
   obtain⟨c1,c2,c3⟩:=jZ h hk h1 h2;obtain⟨p1,p2⟩:=zMG h hk h1 h2;have ee:=(h.os.2 j h2).pos;refine kA (zA9 h hk hc (xN G.toMon c3 (at0 x.zA j).toNat)) (by omega) (bad:=yH.mk 1 k j 0) (kb (by decide)) ?_;unfold zNL;rw[xG h2,zH,c1,bs,zC (by omega) (by omega),bs,zC (by omega) (by omega),bs,c2,bs,yV h2,bs,zE0 h (by omega) hc c3 (by omega) (by omega),bs,p1,bs,sW h hk hc p2,bs]) (by
   unfold zNL;simp)with⟨g1,g2⟩|⟨r,j,j1,j2,g1,g2,g3⟩
 rotate_left
 ·rw[g1,bs]
  exact .inr ⟨r,rfl,g2,fun q=>g3 (q.c1 j j1 j2)⟩
 rw[g1,bs];simp only
 rw[bs];rcases zHJ (body:=zNN x k) x.zA.length (k+1) (by omega) (fun i=> ∀j,i+1≤j→j<x.zA.length→
   mul (suf x (k+1)) ((lvl x k).cs.getD (j-(k+1)) []) ((lvl x k).cs.getD (i-(k+1)) [])=mul (suf x (k+1)) ((lvl x k).cs.getD (i-(k+1)) []) (sig (suf x (k+1)) (lvl x k) (((x.zB.getD i []).getD (j-(i+1)) []).drop (k+1)))) KB (fun i h1 h2 _=>by
   obtain⟨c1,c2,c3⟩:=jZ h hk h1 h2;unfold zNN;rw[xG h2,zH,zC (by omega) (by omega),bs,cs];rcases zHJ (body:=zNM x k i) x.zA.length (i+1) (by omega) (fun j=>mul (suf x (k+1)) ((lvl x k).cs.getD (j-(k+1)) []) ((lvl x k).cs.getD (i-(k+1)) [])=mul (suf x (k+1)) ((lvl x k).cs.getD (i-(k+1)) []) (sig (suf x (k+1)) (lvl x k) (((x.zB.getD i []).getD (j-(i+1)) []).drop (k+1)))) KB (fun j h3 h4 _=>by
     obtain⟨d1,d2,d3⟩:=jZ h hk (j:=j) (by omega) h4;obtain⟨e1,e2,e3⟩:=zQs h hk h1 h3 h4;obtain⟨q,q1,q2,q3⟩:=qJ h (by omega) hc d3 c3;refine kA ((zA9 h hk hc (b:=sig (suf x (k+1)) (lvl x k) (((x.zB.getD i []).getD (j-(i+1)) []).drop (k+1))) q1).iff (Q:=mul (suf x (k+1)) ((lvl x k).cs.getD (j-(k+1)) []) ((lvl x k).cs.getD (i-(k+1)) [])=mul (suf x (k+1)) ((lvl x k).cs.getD (i-(k+1)) []) (sig (suf x (k+1)) (lvl x k) (((x.zB.getD i []).getD (j-(i+1)) []).drop (k+1)))) ?_) (by omega) (bad:=yH.mk 2 k i j) (kb (by decide)) ?_
     ·exact⟨by grind,fun e=>G.cancel_l c3 q1 (cm _ e3) (by rw[q2,e])⟩
     ·unfold zNM
      rw[xG h4,zH,d1,bs,zC (by omega) (by omega),bs,zC (by omega) (by omega),bs,d2,bs,bs,zC (by omega) (by omega),bs,zC (by omega) (by omega),bs,c2,bs,q3,bs,e1,bs,zC (by omega) (by omega),bs,zC (by omega) (by omega),bs,e2,bs,sW h hk hc e3,bs]) (by
     unfold zNM;simp)with⟨g1,g2⟩|⟨r,j,j1,j2,g1,g2,g3⟩
   ·grind
   grind) (by
   unfold zNN;simp)with⟨k1,k2⟩|⟨r,j,j1,j2,k1,k2,k3⟩
 rotate_left
 ·rw[k1,bs]
  exact .inr ⟨r,rfl,k2,fun q=>k3 (q.c2 j j1 j2)⟩
 rw[k1,bs];simp only
 rw[w1,bs,sW h hk hc w2,bs];rcases zA9 h hk hc (b:=(lvl x k).w) (cm _ w2)with⟨m1,m2⟩|⟨m1,m2⟩
 rotate_left
 ·rw[m1,bs,Ka,zH]
  exact .inr ⟨_,rfl,kb (by decide),fun q=>m2 q.c3⟩
 rw[m1,bs,Jm,zI,bs];rcases zHJ (body:=zNP x k (fv (k+1) (lvl x k).w)) x.zA.length (k+1) (by omega) (fun j=>mul (suf x (k+1)) (lvl x k).w (iter (lvl x k).o.toNat (sig (suf x (k+1)) (lvl x k)) (tF (x.zA.length-(k+1)) (j-(k+1))))=mul (suf x (k+1)) (tF (x.zA.length-(k+1)) (j-(k+1))) (lvl x k).w) KB (fun j h1 h2 _=>by
   have hU:=zIL h (k:=k+1) (by omega) hc (i:=j-(k+1)) (by omega);have ee:=(h.os.2 k hk).pos;obtain⟨q,q1,q2,q3⟩:=qJ h (k:=k+1) (by omega) hc hU w2;have fy:V (suf x (k+1)) (iter (lvl x k).o.toNat (sig (suf x (k+1)) (lvl x k)) (tF (x.zA.length-(k+1)) (j-(k+1)))):=uO cm _ hU;refine kA ((zA9 h hk hc (b:=q) fy).iff ⟨by grind,fun e=>G.cancel_l w2 fy q1 (by rw[e,q2])⟩) (by omega) (bad:=yH.mk 4 k j 0) (kb (by decide)) ?_;unfold zNP;rw[xG h2,zH,zF6 h hk h1 h2,bs,yV hk,bs];rw[xZ (S:=V (suf x (k+1))) (body:=zNO x k (at0 x.zA k)) (fun u=>fv (k+1) u) (sig (suf x (k+1)) (lvl x k)) (at0 x.zA k) (by omega) cm (fun u i hu hi=>by
    unfold zNO;simp only
    rw[aS hi,zH,sW h hk hc hu,bs,zC (by omega) (by omega),bs,cs]) (fun u hu=>by
    unfold zNO;simp) hU,bs,bs,q3,bs]
   rfl) (by
   unfold zNP;simp)with⟨n1,n2⟩|⟨r,j,j1,j2,n1,n2,n3⟩
 ·rw[n1,bs]
  exact .inl ⟨rfl,⟨g2,k2,m2,n2⟩⟩
 ·rw[n1,bs]
  exact .inr ⟨r,rfl,n2,fun q=>n3 (q.c4 j j1 j2)⟩
theorem zIN:zTi (f_g x k) (LC x k):=by
 have h6:=h.os.1;have ok:=h.okAt (k:=k+1) (by omega);have G:=zA8 h (k:=k+1) (by omega) hc;obtain⟨w1,w2⟩:=zRp h hk;have hA:=zCl h (k:=k+1) (by omega);have hI:=zII h hk;have cm:∀v,V (suf x (k+1)) v→V (suf x (k+1)) (sig (suf x (k+1)) (lvl x k) v):=by grind[zQt]
 have eqB:∀{a b:Vec},V (suf x (k+1)) a→IsB (f_Z (fv (k+1) a) (fv (k+1) b)) (a=b):=fun ha=>zA9 h hk hc ha
 unfold f_g;rw[zC (by omega) (by omega),bs,cs];rcases zHJ (body:=zNt x k) x.zA.length (k+1) (by omega) (fun j=>pw (mul (suf x (k+1))) (zeros (suf x (k+1)).length) ((lvl x k).cs.getD (j-(k+1)) []) (at0 x.zA j).toNat=sig (suf x (k+1)) (lvl x k) ((x.zW.getD j []).drop (k+1))) KB (fun j h1 h2 _=>by
   obtain⟨c1,c2,c3⟩:=jZ h hk h1 h2;obtain⟨p1,p2⟩:=zMG h hk h1 h2;have ee:=(h.os.2 j h2).pos;refine kA (eqB (xN G.toMon c3 (at0 x.zA j).toNat)) (by omega) (bad:=yH.mk 1 k j 0) (kb (by decide)) ?_;unfold zNt;rw[xG h2,zH,zC (by omega) (by omega),bs,cs,c1,bs,zC (by omega) (by omega),bs,zC (by omega) (by omega),bs,c2,bs,yV h2,bs,zHK h hk hc c3 (by omega) (by omega),bs,p1,bs,hI _ p2,bs]) (by
   unfold zNt;simp)with⟨g1,g2⟩|⟨r,j,j1,j2,g1,g2,g3⟩
 rotate_left
 ·rw[g1,bs]
  exact .inr ⟨r,rfl,g2,fun q=>g3 (q.c1 j j1 j2)⟩
 rw[g1,bs];simp only
 rw[bs];rcases zHJ (body:=zNv x k) x.zA.length (k+1) (by omega) (fun i=> ∀j,i+1≤j→j<x.zA.length→
   mul (suf x (k+1)) ((lvl x k).cs.getD (j-(k+1)) []) ((lvl x k).cs.getD (i-(k+1)) [])=mul (suf x (k+1)) ((lvl x k).cs.getD (i-(k+1)) []) (sig (suf x (k+1)) (lvl x k) (((x.zB.getD i []).getD (j-(i+1)) []).drop (k+1)))) KB (fun i h1 h2 _=>by
   obtain⟨c1,c2,c3⟩:=jZ h hk h1 h2;unfold zNv;rw[xG h2,zH,zC (by omega) (by omega),bs,cs];rcases zHJ (body:=zNu x k i) x.zA.length (i+1) (by omega) (fun j=>mul (suf x (k+1)) ((lvl x k).cs.getD (j-(k+1)) []) ((lvl x k).cs.getD (i-(k+1)) [])=mul (suf x (k+1)) ((lvl x k).cs.getD (i-(k+1)) []) (sig (suf x (k+1)) (lvl x k) (((x.zB.getD i []).getD (j-(i+1)) []).drop (k+1)))) KB (fun j h3 h4 _=>by
     obtain⟨d1,d2,d3⟩:=jZ h hk (j:=j) (by omega) h4;obtain⟨e1,e2,e3⟩:=zQs h hk h1 h3 h4;refine kA (eqB (xJ ok d3 c3)) (by omega) (bad:=yH.mk 2 k i j) (kb (by decide)) ?_;unfold zNu;rw[xG h4,zH,d1,bs,zC (by omega) (by omega),bs,zC (by omega) (by omega),bs,c2,bs,bs,zC (by omega) (by omega),bs,zC (by omega) (by omega),bs,d2,bs,e1,bs,zC (by omega) (by omega),bs,zC (by omega) (by omega),bs,e2,bs,hI _ e3,bs,zC (by omega) (by omega),bs,cs,hA _ _ d3 c3,bs,bs,hA _ _ c3 (cm _ e3),bs]) (by
     unfold zNu;simp)with⟨g1,g2⟩|⟨r,j,j1,j2,g1,g2,g3⟩
   ·grind
   grind) (by
   unfold zNv;simp)with⟨k1,k2⟩|⟨r,j,j1,j2,k1,k2,k3⟩
 rotate_left
 ·rw[k1,bs]
  exact .inr ⟨r,rfl,k2,fun q=>k3 (q.c2 j j1 j2)⟩
 rw[k1,bs];simp only
 rw[w1,bs,hI _ w2,bs];rcases eqB (b:=(lvl x k).w) (cm _ w2)with⟨m1,m2⟩|⟨m1,m2⟩
 rotate_left
 ·rw[m1,bs,Ka,zH]
  exact .inr ⟨_,rfl,kb (by decide),fun q=>m2 q.c3⟩
 rw[m1,bs,Jm,zI,bs];rcases zHJ (body:=zNx x k (fv (k+1) (lvl x k).w)) x.zA.length (k+1) (by omega) (fun j=>mul (suf x (k+1)) (lvl x k).w (iter (lvl x k).o.toNat (sig (suf x (k+1)) (lvl x k)) (tF (x.zA.length-(k+1)) (j-(k+1))))=mul (suf x (k+1)) (tF (x.zA.length-(k+1)) (j-(k+1))) (lvl x k).w) KB (fun j h1 h2 _=>by
   have hU:=zIL h (k:=k+1) (by omega) hc (i:=j-(k+1)) (by omega);have ee:=(h.os.2 k hk).pos;have fy:V (suf x (k+1)) (iter (lvl x k).o.toNat (sig (suf x (k+1)) (lvl x k)) (tF (x.zA.length-(k+1)) (j-(k+1)))):=uO cm _ hU;refine kA (eqB (xJ ok w2 fy)) (by omega) (bad:=yH.mk 4 k j 0) (kb (by decide)) ?_;unfold zNx;rw[xG h2,zH,zKM h hk h1 h2,bs];rw[xZ (S:=V (suf x (k+1))) (body:=zNw x k) (fun u=>fv (k+1) u) (sig (suf x (k+1)) (lvl x k)) (at0 x.zA k) (by omega) cm (fun u i hu hi=>by
    unfold zNw;simp only
    rw[yV hk,bs,aS hi,zH,hI _ hu,bs,zC (by omega) (by omega),bs,cs]) (fun u hu=>by
    unfold zNw;simp only
    rw[yV hk,bs,aR (by omega),zI]) hU,bs,zC (by omega) (by omega),bs,cs]
   have ho:(lvl x k).o=at0 x.zA k:=rfl;rw[←ho,hA _ _ w2 fy,bs,bs,hA _ _ hU w2,bs]) (by
   unfold zNx;simp)with⟨n1,n2⟩|⟨r,j,j1,j2,n1,n2,n3⟩
 ·rw[n1,bs]
  exact .inl ⟨rfl,⟨g2,k2,m2,n2⟩⟩
 ·rw[n1,bs]
  exact .inr ⟨r,rfl,n2,fun q=>n3 (q.c4 j j1 j2)⟩
end
end Go.Pl

namespace Go.Pl
open Go Go.Ab Go.Wk Go.Pc
theorem zCR{m:Vec→Vec→Vec}:∀(i:Nat)(cs:List Vec)(w acc:Vec),i≤cs.length→img m cs (zeros i++w) acc=img m (cs.drop i) w acc
 |0,cs,w,acc,_=>rfl
 |i+1,[],w,acc,h=>by simp at h
 |i+1,c::cs,w,acc,h=>by show img m (c::cs) (0::(zeros i++w)) acc=_;simp only[img,Lp,iter,List.drop_succ_cons];exact zCR i cs w acc (by grind)
theorem zE2{x:SPr}{v:List Int}{j k:Nat}(h:Exp x.zA v j)(hj:j<x.zA.length)(hk:k≤j+1):v.drop k=zeros (j+1-k)++v.drop (j+1):=by
 have:=zAU h hj
 grind[zeros]
section
variable {x:SPr} (h:zEx x) {k:Nat} (hk:k<x.zA.length)
 include h hk
theorem zAV:(lvl x k).cs.length=x.zA.length-(k+1):=by have ok0:=h.okAt (k:=k) (by omega);rw[yJ hk]at ok0;rw[ok0.2.2.1,xH]
theorem zPl{j:Nat}(h1:k+1≤j)(h2:j<x.zA.length):sig (suf x (k+1)) (lvl x k) ((x.zW.getD j []).drop (k+1))=img (mul (suf x (k+1))) ((lvl x k).cs.drop (j-k)) (lvl x j).w (zeros (suf x (k+1)).length):=by have t1:=(h.tl j h2).1;have gJ:=zAV h hk;rw[zE2 t1 h2 (by omega),sig,zCR _ _ _ _ (by omega),show j+1-(k+1)=j-k from by omega];rfl
theorem zKd:∀(d i:Nat),k+1+i+d=x.zA.length→(Rel (mul (suf x (k+1))) (zeros (suf x (k+1)).length) (suf x (k+1+i)) ((lvl x k).cs.drop i)↔
  (∀j,k+1+i≤j→j<x.zA.length→pw (mul (suf x (k+1))) (zeros (suf x (k+1)).length) ((lvl x k).cs.getD (j-(k+1)) []) (at0 x.zA j).toNat=sig (suf x (k+1)) (lvl x k) ((x.zW.getD j []).drop (k+1)))∧
  (∀a,k+1+i≤a→a<x.zA.length→ ∀j,a+1≤j→j<x.zA.length→
   mul (suf x (k+1)) ((lvl x k).cs.getD (j-(k+1)) []) ((lvl x k).cs.getD (a-(k+1)) [])=mul (suf x (k+1)) ((lvl x k).cs.getD (a-(k+1)) []) (sig (suf x (k+1)) (lvl x k) (((x.zB.getD a []).getD (j-(a+1)) []).drop (k+1)))))
 |0,i,hi=>by
  have gJ:=zAV h hk;rw[sV (x:=x) (k:=k+1+i) (by omega),Qd (by omega)];simp only[Rel,true_iff]
  grind
 |d+1,i,hi=>by
  have gJ:=zAV h hk;have ih:=zKd d (i+1) (by omega);rw[show k+1+(i+1)=k+1+i+1 from by omega]at ih;have hj:k+1+i<x.zA.length:=by omega
  have hg:(lvl x k).cs.drop i=(lvl x k).cs.getD i []::(lvl x k).cs.drop (i+1):=by rw[H6 (by omega),J4,J5 (by omega)];rfl
  rw[yJ hj,hg];simp only[Rel];rw[ih];have e1:=zPl h hk (j:=k+1+i) (by omega) hj;rw[show k+1+i-k=i+1 from by omega]at e1;have ho:(lvl x (k+1+i)).o=at0 x.zA (k+1+i):=rfl;rw[ho,←e1];have e2:∀j,k+1+i+1≤j→j<x.zA.length→ ∀dd,(lvl x (k+1+i)).cs[j-(k+1+i+1)]? =aN dd→img (mul (suf x (k+1))) ((lvl x k).cs.drop (i+1)) dd (zeros (suf x (k+1)).length)=sig (suf x (k+1)) (lvl x k) (((x.zB.getD (k+1+i) []).getD (j-(k+1+i+1)) []).drop (k+1)):=fun j h1 h2 dd ax=>by
   obtain⟨_,t2,t3⟩:=h.tl (k+1+i) hj;have t:=t3 (j-(k+1+i+1)) (by omega);rw[zE2 t hj (by omega),sig,zCR _ _ _ _ (by omega),show k+1+i+1-(k+1)=i+1 from by omega]
   congr 1
   simp only[lvl,Jj,Jt]at ax
   grind
  have e3:∀j,k+1+i+1≤j→j<x.zA.length→((lvl x k).cs.drop (i+1))[j-(k+1+i+1)]? =aN ((lvl x k).cs.getD (j-(k+1)) [])∧ ∃dd,(lvl x (k+1+i)).cs[j-(k+1+i+1)]? =aN dd:=fun j h1 h2=>by
   have aA:=zAV h hj;refine⟨?_,?_⟩
   ·rw[L1,show i+1+(j-(k+1+i+1))=j-(k+1)from by omega,J4,J5 (by omega)];rfl
   ·exact⟨_,J5 (by omega)⟩
  constructor
  ·rintro⟨a1,a2,a3,a4⟩
   refine⟨fun j h1 h2=>?_,fun a h1 h2 j h3 h4=>?_⟩
   ·rcases Hv (k+1+i) j with gI|hge
    ·grind
    ·obtain rfl:j=k+1+i:=by omega
     rw[show k+1+i-(k+1)=i from by omega];exact a1
   ·rcases Hv (k+1+i) a with gI|hge
    ·exact a4 a (by omega) h2 j h3 h4
    ·obtain rfl:a=k+1+i:=by omega
     obtain⟨f1,dd,f2⟩:=e3 j (by omega) h4;have:=a2 _ _ _ f1 f2;rw[e2 j (by omega) h4 dd f2]at this;rw[show k+1+i-(k+1)=i from by omega];exact this
  ·rintro⟨a1,a2⟩
   refine⟨?_,fun kk c dd h1 h2=>?_,by grind,by grind⟩
   ·have:=a1 (k+1+i) (by omega) hj
    rw[show k+1+i-(k+1)=i from by omega]at this;exact this
   ·have gI:kk<x.zA.length-(k+1+i+1):=by
     have:=(J8.1 h1).1;rw[Jbf]at this;omega
    have g:=a2 (k+1+i) (by omega) hj (k+1+i+1+kk) (by omega) (by omega);obtain⟨f1,_⟩:=e3 (k+1+i+1+kk) (by omega) (by omega);rw[show k+1+i+1+kk-(k+1+i+1)=kk from by omega]at f1 g;rw[h1]at f1;have f1:=G6.inj f1;have g2:=e2 (k+1+i+1+kk) (by omega) (by omega) dd (by rw[show k+1+i+1+kk-(k+1+i+1)=kk from by omega];exact h2);rw[show k+1+i+1+kk-(k+1+i+1)=kk from by omega]at g2;rw[g2,f1];rw[show k+1+i-(k+1)=i from by omega]at g;exact g
theorem zHL:wK (suf x k)↔wK (suf x (k+1))∧LC x k:=by
 have hr:=zKd h hk (x.zA.length-(k+1)) 0 (by omega);have hl:=xH x (k+1);rw[Jaz,U1]at hr;rw[yJ hk];simp only[wK];rw[hr];constructor
 ·rintro⟨a,⟨b1,b2⟩,c,d⟩
  refine⟨a,⟨b1,b2,c,fun j h1 h2=>?_⟩⟩
  grind
 ·rintro⟨a,b⟩
  refine⟨a,⟨b.c1,b.c2⟩,b.c3,fun j hj=>?_⟩;have:=b.c4 (k+1+j) (by omega) (by omega);rw[show k+1+j-(k+1)=j from by omega]at this
  rwa [hl]
end
theorem zF7{x:SPr}(h:wK (suf x 0))(k:Nat):wK (suf x k):=by
 have:=zA7 h k
 grind
def kQ(x:SPr):Prop:=Pres x∧wK (suf x 0)∧zHC x
theorem zCo{x:SPr}(hl:x.zA.length≤1048576):IsB (zP4 x) (kQ x):=by
 unfold zP4;rcases zAZ hl with⟨h1,h2⟩|⟨h1,h2⟩
 ·have h6:=h2.os.1
  rw[h1,bs,zH];unfold zR4;obtain⟨r,r1,r2⟩:=vL (body:=zIh x) (Q:=fun r=> ∃s:Nat,r=(s:Int)∧wK (suf x s)∧(s=0∨ ¬wK (suf x (s-1)))) (fun i s=>i≤x.zA.length∧s=((x.zA.length-i:Nat):Int)∧wK (suf x (x.zA.length-i))) x.zA.length (fun i s hi ⟨_,hs,gS⟩=>by
    subst hs;have hk:x.zA.length-i-1<x.zA.length:=by omega
    have e9:x.zA.length-(i+1)=x.zA.length-i-1:=by omega
    rw[e9];have e8:i+1≤x.zA.length:=by omega
    rw[show x.zA.length-i=x.zA.length-i-1+1 from by omega]at gS ⊢
    have pK:=zIM h2.toPres hk gS;have bj:=zHL h2.toPres.w hk
    generalize x.zA.length-i-1=k at*
    unfold zIh;rw[aS (by omega),zH,zC (by omega) (by omega),bs,show(((k+1:Nat):Int)-1)=(k:Int)from by omega];rcases pK with⟨g1,g2⟩|⟨r,g1,g2,g3⟩
    ·simp_all
    grind) (fun s ⟨_,hs,gS⟩=>by
    rw[K6]at hs gS;subst hs;unfold zIh
    grind) (s:=(x.zA.length:Int)) ⟨by omega,by rfl,by rw[Q3,sV (by omega)];simp only[wK]⟩
  obtain⟨s,rfl,gS,hs⟩:=r2;rw[r1,bs,bs];cases s with
  |zero=>exact .inl ⟨rfl,h2.toPres,gS,h2⟩
  |succ s=>
   refine .inr ⟨?_,fun q=>?_⟩
   ·congr 1
   ·rcases hs with hs|hs
    ·omega
    ·exact hs (zF7 q.2.1 _)
 ·rw[h1,bs,zI]
  exact .inr ⟨rfl,fun q=>h2 q.2.2⟩
theorem zIO{x:SPr}(hl:x.zA.length≤1048576):IsB (zPz x) (kQ x):=by
 unfold zPz;rcases zBa hl with⟨h1,h2⟩|⟨h1,h2⟩
 ·have h6:=h2.os.1
  rw[h1,bs,zH];unfold zRy zRx;rw[zC (by omega) (by omega),bs];obtain⟨r,r1,r2⟩:=vL (body:=zIf x) (Q:=fun r=>(r=.inl ()∧wK (suf x 0))∨ ∃f,r=.inr f∧f.Kind≠0∧ ¬wK (suf x 0)) (fun i s=>i≤x.zA.length∧s=((x.zA.length-i:Nat):Int)-1∧wK (suf x (x.zA.length-i))) x.zA.length (fun i s hi ⟨_,hs,gS⟩=>by
    subst hs;have hk:x.zA.length-i-1<x.zA.length:=by omega
    have e9:x.zA.length-(i+1)=x.zA.length-i-1:=by omega
    rw[e9];have e8:i+1≤x.zA.length:=by omega
    rw[show x.zA.length-i=x.zA.length-i-1+1 from by omega]at gS ⊢
    have pK:=zIN h2.toPres hk gS;have bj:=zHL h2.toPres.w hk
    generalize x.zA.length-i-1=k at*
    unfold zIf;rw[show(((k+1:Nat):Int)-1)=(k:Int)from by omega,aS (by omega),zH];rcases pK with⟨g1,g2⟩|⟨r,g1,g2,g3⟩
    ·left
     rw[g1,bs];simp only
     rw[show((0:Int) != 0)=aQ from rfl,zI,zC (by omega) (by omega),bs]
     grind
    ·right
     rw[g1,bs,show(r.Kind != 0)=aP from by grind,zH];exact⟨_,rfl,.inr ⟨r,rfl,g2,by grind[zF7]⟩⟩) (fun s ⟨_,hs,gS⟩=>by
    rw[K6]at hs gS;subst hs;unfold zIf
    grind) (s:=(x.zA.length:Int)-1) ⟨by omega,by rfl,by rw[Q3,sV (by omega)];simp only[wK]⟩
  rw[r1,bs];rcases r2 with⟨rfl,q⟩|⟨f,rfl,g1,g2⟩
  ·exact .inl ⟨rfl,h2.toPres,q,h2⟩
  ·simp only
   rw[bs,show(f.Kind==0)=aQ from by grind];exact .inr ⟨rfl,fun q=>g2 q.2.1⟩
 ·rw[h1,bs,zI]
  exact .inr ⟨rfl,fun q=>h2 q.2.2⟩
end Go.Pl

namespace Go.Pl
open Go Go.Ab Go.Wk
abbrev Mx:=List (List Int)
def S:Nat→(Nat→Int)→Int
 |0,_=>0
 |n+1,f=>S n f+f n
theorem zKe{n:Nat}{f g:Nat→Int}(h:∀i,i<n→f i=g i):S n f=S n g:=by
 induction n with
 |zero=>rfl
 |succ n ih=>grind[S]
theorem zMH{p:Int}{f g:Nat→Int}:∀{n:Nat},(∀i,i<n→f i%p=g i%p)→S n f%p=S n g%p
 |0,_=>rfl
 |n+1,h=>by simp only[S];rw[Jat,zMH (n:=n) fun i hi=>h i (by omega),h n (by omega),←Jat]
theorem zIP:∀n:Nat,S n (fun _=>0)=0
 |0=>rfl
 |n+1=>by simp only[S,zIP n];rfl
theorem zQu{f g:Nat→Int}:∀n:Nat,S n (fun i=>f i+g i)=S n f+S n g
 |0=>rfl
 |n+1=>by simp only[S,zQu n];omega
theorem zQv{f:Nat→Int}(a:Int):∀n:Nat,S n (fun i=>f i*a)=S n f*a
 |0=>by simp[S]
 |n+1=>by simp only[S,zQv a n,Jb2]
theorem zMI{f:Nat→Int}(a:Int):∀n:Nat,S n (fun i=>a*f i)=a*S n f
 |0=>by simp[S]
 |n+1=>by simp only[S,zMI a n,Jb1]
theorem zMJ{f:Nat→Nat→Int}(m:Nat):∀n:Nat,S n (fun i=>S m (fun j=>f i j))=S m (fun j=>S n (fun i=>f i j))
 |0=>by simp only[S];grind[zIP]
 |n+1=>by simp only[S];rw[zMJ m n,zQu]
theorem zMK{f:Nat→Int}{k:Nat}:∀{n:Nat},k<n→(∀i,i<n→i≠k→f i=0)→S n f=f k
 |0,h,_=>by omega
 |n+1,h,hz=>by
  simp only[S]
  by_cases hk:k=n
  ·subst hk
   rw[zKe (g:=fun _=>0) fun i hi=>hz i (by omega) (by omega),zIP];omega
  ·rw[zMK (n:=n) (by omega) fun i hi=>hz i (by omega),hz n (by omega) (by omega)];omega
def mkv(D:Nat)(f:Nat→Int):List Int:=(Jo D).map f
theorem wA(D:Nat)(f:Nat→Int):(mkv D f).length=D:=by simp[mkv]
theorem zAW{D:Nat}{f:Nat→Int}{i:Nat}(h:i<D):(mkv D f)[i]? =aN (f i):=by simp[mkv,h]
theorem tA{D:Nat}{f:Nat→Int}{i:Nat}(h:i<D):at0 (mkv D f) i=f i:=by rw[at0,J4,zAW h];rfl
theorem uT{D:Nat}{f g:Nat→Int}(h:∀i,i<D→f i=g i):mkv D f=mkv D g:=by grind[mkv,List.map_congr_left]
theorem zG7{D:Nat}{f:Nat→Int}{j:Nat}{a:Int}:(mkv D f).set j a=mkv D (fun i=>if i=j then a else f i):=by
 apply Kw;intro i;rw[Qh,wA]
 by_cases hi:i<D
 ·by_cases hij:j=i
  ·subst hij;rw[if_pos rfl,if_pos hi,zAW hi,if_pos rfl]
  ·rw[if_neg hij,zAW hi,zAW hi,if_neg fun h=>hij h.symm]
 ·have h1:∀g:Nat→Int,(mkv D g)[i]? =aO:=by grind[wA]
  grind
theorem zE3{v:List Int}{D:Nat}(h:v.length=D):v=mkv D (at0 v):=by
 apply Kw;intro i
 by_cases hi:i<D
 ·rw[zAW hi,at0,J4,J5 (by omega)];rfl
 grind[wA]
theorem zHM(D:Nat):J1 D (0:Int)=mkv D (fun _=>0):=by
 apply Kw
 grind[zAW,wA]
abbrev ent(B:Mx)(l j:Nat):Int:=at0 (B.getD l []) j
def zCp(p:Int)(D:Nat)(r:List Int)(B:Mx):List Int:=mkv D fun j=>S D (fun l=>at0 r l*ent B l j)%p
def PM(p:Int)(D:Nat)(A B:Mx):Mx:=A.map fun r=>zCp p D r B
def idM(D:Nat):Mx:=(Jo D).map fun i=>mkv D fun j=>if j=i then 1 else 0
def Row(p:Int)(D:Nat)(r:List Int):Prop:=r.length=D∧ ∀i,i<D→0≤at0 r i∧at0 r i≤p-1
def Mat(p:Int)(D:Nat)(A:Mx):Prop:=A.length=D∧ ∀i,i<D→Row p D (A.getD i [])
theorem zBE{p:Int}{D i:Nat}{A B:Mx}(h:i<A.length):(PM p D A B).getD i []=zCp p D (A.getD i []) B:=by grind[PM]
theorem wV{p:Int}{D:Nat}{A B:Mx}:(PM p D A B).length=A.length:=by simp[PM]
theorem zE4{p:Int}{D:Nat}{A B:Mx}(hp:0<p)(hA:A.length=D):Mat p D (PM p D A B):=by refine⟨by rw[wV,hA],fun i hi=>?_⟩;rw[zBE (by omega)];refine⟨by rw[zCp,wA],fun j hj=>?_⟩;rw[zCp,tA hj];have h1:=L7 (S D fun l=>at0 (A.getD i []) l*ent B l j) (show p≠0 by omega);have h2:=Ko (S D fun l=>at0 (A.getD i []) l*ent B l j) hp;omega
theorem zML{p:Int}{D i j:Nat}{A B:Mx}(hA:A.length=D)(hi:i<D)(hj:j<D):ent (PM p D A B) i j=S D (fun l=>ent A i l*ent B l j)%p:=by rw[ent,zBE (by omega),zCp,tA hj]
theorem zG8{D:Nat}{A B:Mx}(hA:A.length=D)(hB:B.length=D)(h:∀i,i<D→A.getD i []=B.getD i []):A=B:=by
 apply Kw
 grind
theorem zMM{p:Int}{D:Nat}{A B C:Mx}(hA:A.length=D)(hB:B.length=D):PM p D (PM p D A B) C=PM p D A (PM p D B C):=by
 refine zG8 (by rw[wV,wV,hA]) (by rw[wV,hA]) fun i hi=>?_
 rw[zBE (A:=PM p D A B) (by rw[wV];omega),zBE (A:=A) (B:=PM p D B C) (by omega)];unfold zCp;refine uT fun j hj=>?_
 have e1:S D (fun l=>at0 ((PM p D A B).getD i []) l*ent C l j)%p=S D (fun l=>S D (fun q=>ent A i q*ent B q l)*ent C l j)%p:=zMH fun l hl=>by
  have:=zML (p:=p) (B:=B) hA hi hl;simp only[ent]at this ⊢
  rw[this,H3,Gt,←H3]
 have e2:S D (fun l=>at0 (A.getD i []) l*ent (PM p D B C) l j)%p=S D (fun q=>ent A i q*S D (fun l=>ent B q l*ent C l j))%p:=zMH fun q hq=>by rw[zML hB hq hj,H3,Gt,←H3]
 rw[e1,e2]
 congr 1
 have e3:(fun l=>S D (fun q=>ent A i q*ent B q l)*ent C l j)=fun l=>S D (fun q=>ent A i q*ent B q l*ent C l j):=funext fun l=>(zQv _ _).symm
 have e4:(fun q=>ent A i q*S D (fun l=>ent B q l*ent C l j))=fun q=>S D (fun l=>ent A i q*ent B q l*ent C l j):=funext fun q=>by rw[←zMI];exact zKe fun l _=>by rw[Int.mul_assoc]
 rw[e3,e4];exact zMJ D D
theorem tT(D:Nat):(idM D).length=D:=by simp[idM]
theorem zCq{D i:Nat}(h:i<D):(idM D).getD i []=mkv D fun j=>if j=i then 1 else 0:=by simp[idM,J4,h]
theorem zCr{p:Int}{D:Nat}(hp:2≤p):Mat p D (idM D):=by
 refine⟨tT D,fun i hi=>?_⟩;rw[zCq hi];refine⟨wA _ _,fun j hj=>?_⟩
 grind[tA]
theorem zF8{p a:Int}(h:0≤a∧a≤p-1):a%p=a:=K1 h.1 (by omega)
theorem zKf{p:Int}{D:Nat}{B:Mx}(hB:Mat p D B):PM p D (idM D) B=B:=by
 refine zG8 (by rw[wV,tT]) hB.1 fun i hi=>?_
 rw[zBE (by grind[tT]),zCq hi,zCp];obtain⟨h1,h2⟩:=hB.2 i hi;refine Eq.trans (uT fun j hj=>?_) (zE3 h1).symm;rw[zMK (k:=i) hi fun l hl gj=>by rw[tA hl,if_neg gj,Int.zero_mul],tA hi,if_pos rfl,Jb0]
 grind[zF8]
theorem zMN{p:Int}{D:Nat}{A:Mx}(hA:Mat p D A):PM p D A (idM D)=A:=by
 refine zG8 (by rw[wV,hA.1]) hA.1 fun i hi=>?_
 rw[zBE (by rw[hA.1];exact hi),zCp];obtain⟨h1,h2⟩:=hA.2 i hi;refine Eq.trans (uT fun j hj=>?_) (zE3 h1).symm;rw[zMK (k:=j) hj fun l hl gj=>by rw[ent,zCq hl,tA hj,if_neg (fun h=>gj h.symm),Jas],ent,zCq hj,tA hj,if_pos rfl,Hd]
 grind[zF8]
theorem zMO{p:Int}{D i j:Nat}{B:Mx}(hB:Mat p D B)(hi:i<D)(hj:j<D):ixO B (i:Int)=aN (B.getD i [])∧ixO (B.getD i []) (j:Int)=aN (ent B i j)∧(B.getD i []).length=D∧0≤ent B i j∧ent B i j≤p-1:=by
 obtain⟨h1,h2⟩:=hB.2 i hi
 grind[yC]
def acc(p:Int)(D i:Nat)(r:List Int)(B:Mx):List Int:=mkv D fun j=>S i (fun l=>at0 r l*ent B l j)%p
def zBb(p:Int)(D i k:Nat)(r:List Int)(B:Mx):List Int:=mkv D fun j=>if j<k then S (i+1) (fun l=>at0 r l*ent B l j)%p else S i (fun l=>at0 r l*ent B l j)%p
theorem zF9{p:Int}{D i:Nat}{r:List Int}{B:Mx}:zBb p D i 0 r B=acc p D i r B:=rfl
theorem zFA{p:Int}{D i:Nat}{r:List Int}{B:Mx}:zBb p D i D r B=acc p D (i+1) r B:=uT (by omega)
theorem zHN{p:Int}{D i k:Nat}{r:List Int}{B:Mx}(hk:k<D){a:Int}(ha:a=(at0 (zBb p D i k r B) k+at0 r i*ent B i k)%p):(zBb p D i k r B).set k a=zBb p D i (k+1) r B:=by
 subst ha;simp only[zBb];rw[zG7,tA hk,if_neg (by omega)];refine uT fun j hj=>?_
 by_cases hjk:j=k
 ·subst hjk
  rw[if_pos rfl,if_pos (by omega)]
  grind[S,Hx]
 omega
theorem zHO{p:Int}{D i k j:Nat}{r:List Int}{B:Mx}(hp:0<p)(hj:j<D):0≤at0 (zBb p D i k r B) j∧at0 (zBb p D i k r B) j≤p-1:=by
 rw[zBb,tA hj];split
 ·have h1:=L7 (S (i+1) fun l=>at0 r l*ent B l j) (show p≠0 by omega)
  have h2:=Ko (S (i+1) fun l=>at0 r l*ent B l j) hp;omega
 ·have h1:=L7 (S i fun l=>at0 r l*ent B l j) (show p≠0 by omega)
  have h2:=Ko (S i fun l=>at0 r l*ent B l j) hp;omega
theorem zE5{p:Int}{D i k:Nat}{r:List Int}{B:Mx}:(zBb p D i k r B).length=D:=wA _ _
theorem zKg{p:Int}{D i k j:Nat}{r:List Int}{B:Mx}(hj:j<D):ixO (zBb p D i k r B) (j:Int)=aN (at0 (zBb p D i k r B) j):=by grind[yV,zE5]
theorem zHP{p:Int}{D:Nat}{r:List Int}{B:Mx}:J1 D (0:Int)=acc p D 0 r B:=by rw[zHM];rfl
theorem zFB{a b p:Int}(hp:p≤7)(ha:0≤a∧a≤p-1)(hb:0≤b∧b≤p-1):0≤a*b∧a*b≤36:=by have h1:0≤a*b:=He ha.1 hb.1;have h2:a*b≤6*6:=Kf (by omega) (by omega) hb.1 (by omega);omega
section
variable {p:Int}{D:Nat} (hp:Prime p) (hD:D≤8)
 include hp hD
theorem zE6{r:List Int}{B:Mx}(hr:Row p D r)(hB:Mat p D B):f_B p r B (D:Int)=aN (zCp p D r B):=by
 have h7:=hp.pos;have hBl:=hB.1;have mg:=hr.1;unfold f_B;rw[yO (by omega),bs,zHP (p:=p) (r:=r) (B:=B)];have:=zQ (body:=zN1 p r B) (r:=acc p D D r B) (fun i=>(acc p D i r B,(i:Int))) D (fun i hi=>by
  have tk:=hr.2 i hi;unfold zN1;simp only
  rw[mg,hBl,xG hi,zH,zH];have inner:=zQ (body:=zN0 p r B (acc p D i r B,(i:Int))) (r:=acc p D (i+1) r B) (fun k=>(zBb p D i k r B,(k:Int))) D (fun k hk=>by
   obtain⟨b1,b2,b3,b4⟩:=zMO hB hi hk;have ha:=zHO (p:=p) (i:=i) (k:=k) (r:=r) (B:=B) (by omega) hk;have hm:=zFB (by omega) tk b4;unfold zN0;simp only
   rw[zE5,xG hk,zH,b1,bs,b3,xG hk,zH,zKg hk,bs,yV (by omega),bs,bs,b2,bs,zC (by omega) (by omega),bs,zC (by omega) (by omega),bs];have tm:vU (at0 (zBb p D i k r B) k+at0 r i*ent B i k) p=aN ((at0 (zBb p D i k r B) k+at0 r i*ent B i k)%p):=by
    unfold vU
    grind
   rw[tm,bs,bs,zC (by omega) (by omega),bs,cs,Jn,zHN hk rfl]) (by
   unfold zN0;simp only
   rw[zE5,jG,zI,zFA])
  rw[zF9,show((0:Nat):Int)=0 from rfl]at inner
  grind[zC]) (by
  unfold zN1
  grind)
 rw[show((0:Nat):Int)=0 from rfl]at this;rw[this,bs];rfl
theorem zG9{a:Int}(h0:0≤a)(_h1:a≤1000):zGH a p=aN (a%p):=by have _:=hD;have h7:=hp.pos;have e1:=L7 a (show p≠0 by omega);have e2:=Ko a (show 0<p by omega);unfold zGH vU;rw[if_neg (by omega),bs,L4 h0,zC (by omega) (by omega),bs,if_neg (by omega),bs,L4 (by omega)];simp
theorem zCS{i:Nat}{r:List Int}{B:Mx}(hi:i<D)(hr:Row p D r)(hB:Mat p D B):f_C (acc p D i r B) (B.getD i []) (at0 r i) p=aN (acc p D (i+1) r B):=by
 have h7:=hp.pos;have tk:=hr.2 i hi;unfold f_C;have hl:(acc p D i r B).length=D:=wA _ _;have inner:=zQ (body:=zIk (acc p D i r B) (B.getD i []) (at0 r i) p) (r:=acc p D (i+1) r B) (fun k=>(zBb p D i k r B,(k:Int))) D (fun k hk=>by
  obtain⟨b1,b2,b3,b4⟩:=zMO hB hi hk;have ha:=zHO (p:=p) (i:=i) (k:=k) (r:=r) (B:=B) (by omega) hk;have hm:=zFB (by omega) tk b4;unfold zIk;simp only
  rw[hl,xG hk,zH,zKg hk,bs,b2,bs,zC (by omega) (by omega),bs,zC (by omega) (by omega),bs,zG9 hp hD (by omega) (by omega),bs,bs,zC (by omega) (by omega),bs,cs,Jn,zHN hk rfl]) (by
  unfold zIk;simp only
  rw[hl,jG,zI,zFA])
 rw[zF9,show((0:Nat):Int)=0 from rfl]at inner
 grind
theorem kB{r:List Int}{B:Mx}{q:Int}(hr:Row p D r)(hB:Mat p D B)(hq:q=(D:Int)):zNW r (zZ.mk p q B)=aN (zCp p D r B):=by
 subst hq;have mg:=hr.1;unfold zNW;simp only
 rw[yO (by omega),bs,zHP (p:=p) (r:=r) (B:=B)];have:=zQ (body:=zIl r (zZ.mk p (D:Int) B)) (r:=acc p D D r B) (fun i=>(acc p D i r B,(i:Int))) D (fun i hi=>by
  have hBl:=hB.1;unfold zIl;simp only
  rw[mg,xG hi,zH,yV (by omega),bs,yC [] (by omega),bs,zCS hp hD hi hr hB,bs,zC (by omega) (by omega),bs,cs]) (by
  unfold zIl
  grind)
 rw[show((0:Nat):Int)=0 from rfl]at this;rw[this,bs];rfl
theorem zFC{A B:Mx}{i:Nat}(hi:i<A.length):(PM p D A B).take i++[zCp p D (A.getD i []) B]=(PM p D A B).take (i+1):=by
 have _:=hp;have _:=hD;rw[Jk (by grind[wV])]
 congr 2
 have:=zBE (p:=p) (D:=D) (B:=B) hi
 grind
theorem sA{A B:Mx}(hA:Mat p D A)(hB:Mat p D B):f_P p A B (D:Int)=aN (PM p D A B):=by
 have p8:=hA.1;unfold f_P;have:=zQ (body:=zN2 p A B (D:Int)) (r:=PM p D A B) (fun i=>((PM p D A B).take i,(i:Int))) D (fun i hi=>by
  unfold zN2;simp only
  rw[p8,xG hi,zH,yC [] (by omega),bs,zE6 hp hD (hA.2 i hi) hB,bs,xD (by rw[Kr,wV];simp;omega),bs,zC (by omega) (by omega),bs,cs,zFC hp hD (by omega)]) (by
  unfold zN2;simp only
  rw[p8,jG,zI,Jp (by grind[wV])])
 grind
theorem zEQ{A B:Mx}{q:Int}(hA:Mat p D A)(hB:Mat p D B):zP8 (zZ.mk p q A) (zZ.mk p (D:Int) B)=aN (zZ.mk p (D:Int) (PM p D A B)):=by
 have p8:=hA.1;unfold zP8;have:=zQ (body:=zIm (zZ.mk p q A) (zZ.mk p (D:Int) B)) (r:=PM p D A B) (fun i=>((PM p D A B).take i,(i:Int))) D (fun i hi=>by
  unfold zIm;simp only
  rw[p8,xG hi,zH,yC [] (by omega),bs,kB hp hD (hA.2 i hi) hB rfl,bs,xD (by rw[Kr,wV];simp;omega),bs,zC (by omega) (by omega),bs,cs,zFC hp hD (by omega)]) (by
  unfold zIm;simp only
  rw[p8,jG,zI,Jp (by grind[wV])])
 grind
theorem zHQ{i:Nat}(_hi:i<D):(J1 D (0:Int)).set i 1=mkv D fun j=>if j=i then 1 else 0:=by have _:=hp;have _:=hD;rw[zHM,zG7]
theorem zKh{i:Nat}(hi:i<D):(idM D).take i++[mkv D fun j=>if j=i then 1 else 0]=(idM D).take (i+1):=by
 have _:=hp;have _:=hD;rw[Jk (by grind[tT])]
 congr 2
 have:=zCq hi
 grind
theorem zE7:zNz (D:Int)=aN (idM D):=by
 unfold zNz;have:=zQ (body:=zIg (D:Int)) (r:=idM D) (fun i=>((idM D).take i,(i:Int))) D (fun i hi=>by
  unfold zIg;simp only
  rw[xG hi,zH,yO (by omega),bs,wG,Js,if_pos hi,bs,Jn,zHQ hp hD hi,xD (by grind),bs,zC (by omega) (by omega),bs,cs,zKh hp hD hi]) (by
  unfold zIg;simp only
  rw[jG,zI,Jp (by grind[tT])])
 grind
theorem zER:zP7 p (D:Int)=aN (zZ.mk p (D:Int) (idM D)):=by
 unfold zP7;have:=zQ (body:=zFS (D:Int)) (r:=idM D) (fun i=>((idM D).take i,(i:Int))) D (fun i hi=>by
  unfold zFS;simp only
  rw[xG hi,zH,yO (by omega),bs,wG,Js,if_pos hi,bs,Jn,zHQ hp hD hi,xD (by grind),bs,zC (by omega) (by omega),bs,cs,zKh hp hD hi]) (by
  unfold zFS;simp only
  rw[jG,zI,Jp (by grind[tT])])
 grind
end
end Go.Pl

namespace Go.Pl
open Go Go.Ab Go.Wk Go.Pc
def nw:Nat→List Int→List Nat
 |_,[]=>[]
 |o,a::v=>J1 a.toNat o++nw (o+1) v
theorem zFD:∀(o:Nat)(u v:List Int),nw o (u++v)=nw o u++nw (o+u.length) v
 |o,[],v=>by simp[nw]
 |o,a::u,v=>by
  simp only[Kl,nw,zFD (o+1) u v,Jb,Jh]
  grind
theorem zGA{v:List Int}{i:Nat}(h:i<v.length):nw 0 (v.take (i+1))=nw 0 (v.take i)++J1 (at0 v i).toNat i:=by
 rw[Jk h,zFD,Kr,Gx (by omega),J6];simp only[nw,Je]
 grind
theorem zKi{n:Nat}:∀(o:Nat)(v:List Int),o+v.length≤n→ ∀w∈nw o v,w<n
 |o,[],_,w,h=>by grind[nw]
 |o,a::v,hv,w,h=>by
  simp only[nw,Jq,Jh]at h hv;rcases h with h|h
  ·grind
  ·exact zKi (o+1) v (by omega) w h
theorem zCT:∀(o:Nat)(v:List Int),(∀i,i<v.length→at0 v i≤6)→(nw o v).length≤6*v.length
 |o,[],_=>by simp[nw]
 |o,a::v,h=>by
  have h0:=h 0 (by simp);have:=zCT (o+1) v fun i hi=>by
   have:=h (i+1) (by grind)
   grind
  simp only[at0,Up]at h0
  grind[nw]
def wM(p:Int)(D:Nat)(A:List Mx)(ws:List Nat)(B:Mx):Mx:=ws.foldl (fun B w=>PM p D B (A.getD w [])) B
theorem zFE{p:Int}{D:Nat}{A:List Mx}{u v:List Nat}{B:Mx}:wM p D A (u++v) B=wM p D A v (wM p D A u B):=by simp[wM,Ux]
theorem zIQ{p:Int}{D:Nat}{A:List Mx}{w:Nat}:∀(k:Nat)(B:Mx),wM p D A (J1 k w) B=iter k (fun B=>PM p D B (A.getD w [])) B
 |0,_=>rfl
 |k+1,B=>by rw[Jz];show wM p D A (J1 k w) (PM p D B (A.getD w []))=_;rw[zIQ k];rfl
theorem zCU{p:Int}{D:Nat}{A:List Mx}(hp:0<p):∀(ws:List Nat){B:Mx},Mat p D B→Mat p D (wM p D A ws B)
 | [],_,hB=>hB
 |_w::ws,_,hB=>zCU hp ws (zE4 hp hB.1)
theorem zMP{p:Int}{D:Nat}{A:List Mx}(hp:0<p){C:Mx}(hC:C.length=D):∀(ws:List Nat){B:Mx},Mat p D B→wM p D A ws (PM p D C B)=PM p D C (wM p D A ws B)
 | [],_,_=>rfl
 |w::ws,B,hB=>by show wM p D A ws (PM p D (PM p D C B) (A.getD w []))=PM p D C (wM p D A ws (PM p D B (A.getD w [])));rw[zMM hC hB.1,zMP hp hC ws (zE4 hp hB.1)]
structure MOk (n:Nat) (m:zD) (D:Nat):Prop where
 p:Prime m.Prime
 d:m.Dim=(D:Int)
 d1:1≤D
 d3:D≤3
 len:m.zL.length=n
 mat:∀i,i<n→Mat m.Prime D (m.zL.getD i [])
section
variable {n D:Nat}{m:zD} (hm:MOk n m D) (hn:n≤9)
 include hm hn
theorem zHR{v:List Int}(hl:v.length=n)(hv:∀i,i<n→0≤at0 v i∧at0 v i≤6):f_D m v=aN (wM m.Prime D m.zL (nw 0 v) (idM D)):=by
 have h7:=hm.p.pos;have h3:=hm.d3;have gg:=hm.len;unfold f_D;rw[hm.d,zE7 hm.p (by omega),bs];have hI:∀i,Mat m.Prime D (wM m.Prime D m.zL (nw 0 (v.take i)) (idM D)):=by grind[zCU,zCr]
 have:=zQ (body:=zN4 m v) (r:=wM m.Prime D m.zL (nw 0 v) (idM D)) (fun i=>(wM m.Prime D m.zL (nw 0 (v.take i)) (idM D),(i:Int))) n (fun i hi=>by
  have hvi:=hv i hi;unfold zN4;simp only
  rw[hl,xG hi,zH];rw[xZ (S:=Mat m.Prime D) (body:=zN3 m v (wM m.Prime D m.zL (nw 0 (v.take i)) (idM D),(i:Int))) (fun B=>B) (fun B=>PM m.Prime D B (m.zL.getD i [])) (at0 v i) hvi.1 (fun B hB=>zE4 (by omega) hB.1) (fun B q hB hq=>by
   unfold zN3;simp only
   rw[yV (by omega),bs,aS hq,zH,yC [] (by omega),bs,hm.d,sA hm.p (by omega) hB (hm.mat i hi),bs,zC (by omega) (by omega),bs,cs]) (fun B hB=>by
   unfold zN3;simp only
   rw[yV (by omega),bs,aR (by omega),zI]) (hI i),bs,zC (by omega) (by omega),bs,cs]
  grind[zGA,zFE,zIQ]) (by
  unfold zN4
  grind)
 rw[show((0:Nat):Int)=0 from rfl,Kg]at this
 grind[nw,wM]
abbrev enW(ws:List Nat):List Int:=ws.map fun(w:Nat)=>(w:Int)+1
theorem zBn{i:Nat}(hi:i<n):zJl m (i:Int)=aN (zZ.mk m.Prime (D:Int) (m.zL.getD i [])):=by have _:=hn;have gg:=hm.len;unfold zJl;rw[yC [] (by omega),bs,hm.d]
theorem zBo{ws:List Nat}(hw:∀w∈ws,w<n)(hl:ws.length≤1000000):f_Q m (enW ws)=aN (zZ.mk m.Prime (D:Int) (wM m.Prime D m.zL ws (idM D))):=by
 have h7:=hm.p.pos;have h3:=hm.d3;unfold f_Q;rw[hm.d,zER hm.p (by omega),bs];have hI:∀i,Mat m.Prime D (wM m.Prime D m.zL (ws.take i) (idM D)):=by grind[zCU,zCr]
 have bO:(enW ws).length=ws.length:=by simp
 have:=zQ (body:=zNX m (enW ws)) (r:=(m.Prime,(D:Int),wM m.Prime D m.zL ws (idM D))) (fun i=>(m.Prime,(D:Int),wM m.Prime D m.zL (ws.take i) (idM D),(i:Int))) ws.length (fun i hi=>by
  have pd:=hw ws[i] (Jw hi);unfold zNX;simp only
  rw[bO,xG hi,zH,wG,Jj,J5 hi];simp only[Lm];rw[bs,zC (by omega) (by omega),bs,show((ws[i]:Nat):Int)+1-1=((ws[i]:Nat):Int)from by omega,zBn hm hn pd,bs,zEQ hm.p (by omega) (hI i) (hm.mat _ pd),bs,zC (by omega) (by omega),bs,cs,Jk hi,zFE];rfl) (by
  unfold zNX;simp)
 rw[show((0:Nat):Int)=0 from rfl,Kg]at this
 grind[wM]
end
theorem sN{v:List Int}(hl:v.length≤9)(hv:∀i,i<v.length→0≤at0 v i∧at0 v i≤6):f_u v=aN (enW (nw 0 v)):=by
 unfold f_u;have gg:∀i,(nw 0 (v.take i)).length≤54:=fun i=>by
  have:=zCT 0 (v.take i) (by grind)
  grind
 have:=zQ (body:=zNS v) (r:=enW (nw 0 v)) (fun i=>(enW (nw 0 (v.take i)),(i:Int))) v.length (fun i hi=>by
  have hvi:=hv i hi;have hli:=gg i;unfold zNS;simp only
  rw[xG hi,zH,yV hi,bs];have inner:=zQ (body:=zNR (enW (nw 0 (v.take i)),(i:Int)) (at0 v i)) (r:=enW (nw 0 (v.take (i+1)))) (fun k=>(enW (nw 0 (v.take i)++J1 k i),(k:Int))) (at0 v i).toNat (fun k hk=>by
   unfold zNR;simp only
   rw[aS (by omega),zH,zC (by omega) (by omega),bs,xD (by grind),bs,zC (by omega) (by omega),bs,cs]
   congr 3
   rw[Uh,←Jb];simp) (by
   unfold zNR;simp only
   rw[aR (by omega),zI,zGA hi])
  rw[show((0:Nat):Int)=0 from rfl,Hf,Je]at inner
  grind[zC]) (by
  unfold zNS;simp)
 rw[show((0:Nat):Int)=0 from rfl,Kg]at this;simp only[nw,enW,Ly]at this
 grind
theorem zPm{v o:Int}(h:zP6 1 (IntKind.wrap .u64 o)=aN (0,o)):zP6 (IntKind.wrap .u64 (([v]:List Int).length:Int)) (IntKind.wrap .u64 o)=aN (0,o):=by rw[show IntKind.wrap .u64 (([v]:List Int).length:Int)=1 from by rfl];exact h
theorem zHS{v o:Int}(ho:Prime o):f_E [v] o=aN (J1 o.toNat v):=by
 unfold f_E;rcases ho with rfl|rfl|rfl|rfl
 ·have h:=zQ (body:=zIj) (r:=[v,v]) (fun i=>match i with|0=>([v,0],1)|_=>([v,v],2)) 1 (fun i hi=>by
   match i,hi with
   |0,_=>rfl) (by rfl)
  rw[zPm (by rfl),bs];have hl:yT (IntKind.wrap .i64 2)=aN 2:=by rfl
  simp only[hl,bs];rw[show decide ((2:Int)<0)=aQ from rfl,zI,show decide ((0:Int)> 0)=aQ from rfl,zI,show decide ((2:Int)> 9223372036854775807)=aQ from by decide,zI]
  grind[vV]
 ·have h:=zQ (body:=zIj) (r:=[v,v,v]) (fun i=>match i with|0=>([v,0,0],1)|1=>([v,v,0],2)|_=>([v,v,v],3)) 2 (fun i hi=>by
   match i,hi with
   |0,_=>rfl
   |1,_=>rfl) (by rfl)
  rw[zPm (by rfl),bs];have hl:yT (IntKind.wrap .i64 3)=aN 3:=by rfl
  simp only[hl,bs];rw[show decide ((3:Int)<0)=aQ from rfl,zI,show decide ((0:Int)> 0)=aQ from rfl,zI,show decide ((3:Int)> 9223372036854775807)=aQ from by decide,zI]
  grind[vV]
 ·have h:=zQ (body:=zIj) (r:=[v,v,v,v,v]) (fun i=>match i with|0=>([v,0,0,0,0],1)|1=>([v,v,0,0,0],2)|2=>([v,v,v,v,0],4)|_=>([v,v,v,v,v],5)) 3 (fun i hi=>by
   match i,hi with
   |0,_=>rfl
   |1,_=>simp[zIj,yF,vV,rng,inR]
   |2,_=>rfl) (by rfl)
  rw[zPm (by rfl),bs];have hl:yT (IntKind.wrap .i64 5)=aN 5:=by rfl
  simp only[hl,bs];rw[show decide ((5:Int)<0)=aQ from rfl,zI,show decide ((0:Int)> 0)=aQ from rfl,zI,show decide ((5:Int)> 9223372036854775807)=aQ from by decide,zI];have e2:vV (J1 5 (0:Int)) 0 (([v]:List Int).take ((J1 5 (0:Int)).length-0))=[v,0,0,0,0]:=by rfl
  grind
 ·have h:=zQ (body:=zIj) (r:=[v,v,v,v,v,v,v]) (fun i=>match i with|0=>([v,0,0,0,0,0,0],1)|1=>([v,v,0,0,0,0,0],2)|2=>([v,v,v,v,0,0,0],4)|_=>([v,v,v,v,v,v,v],7)) 3 (fun i hi=>by
   match i,hi with
   |0,_=>rfl
   |1,_=>simp[zIj,yF,vV,rng,inR]
   |2,_=>rfl) (by rfl)
  rw[zPm (by rfl),bs];have hl:yT (IntKind.wrap .i64 7)=aN 7:=by rfl
  simp only[hl,bs];rw[show decide ((7:Int)<0)=aQ from rfl,zI,show decide ((0:Int)> 0)=aQ from rfl,zI,show decide ((7:Int)> 9223372036854775807)=aQ from by decide,zI];have e2:vV (J1 7 (0:Int)) 0 (([v]:List Int).take ((J1 7 (0:Int)).length-0))=[v,0,0,0,0,0,0]:=by rfl
  simp_all
end Go.Pl

namespace Go.Pl
open Go Go.Ab Go.Wk Go.Pc
theorem IsB.b{o:Option Bool}{P:Prop}(h:IsB o P):IsB (o.bind fun r=>aN r) P:=by grind
theorem zDn{p:Int}{D:Nat}{r:List Int}(hp:Prime p)(hD:D≤8):IsB (zNQ r p (D:Int)) (Row p D r):=by
 have h7:=hp.pos;unfold zNQ
 by_cases h:r.length=D
 ·rw[zAe (by omega),zI]
  refine(uZ r.length (fun i=>0≤at0 r i∧at0 r i≤p-1) rfl (fun i hi _=>?_) ?_).iff ⟨fun g=>⟨h,by grind⟩,fun g=>by rw[h];exact g.2⟩
  ·refine vA (sH _ _ _) (by omega) ?_
   unfold zKu;rw[xG hi,zH,yV hi,bs,zC (by omega) (by omega),bs]
  ·unfold zKu
   simp
 ·rw[zAf (by omega),zH]
  exact .inr ⟨rfl,fun g=>h g.1⟩
theorem zDo{p:Int}{D:Nat}{r:List Int}(hp:Prime p)(hD:D≤8):IsB (zNy p (D:Int) r) (Row p D r):=by
 have h7:=hp.pos;unfold zNy
 by_cases h:r.length=D
 ·rw[zAe (by omega),zI]
  refine(uZ r.length (fun i=>0≤at0 r i∧at0 r i≤p-1) rfl (fun i hi _=>?_) ?_).iff ⟨fun g=>⟨h,by grind⟩,fun g=>by rw[h];exact g.2⟩
  ·refine vA (zA3 _ _ _) (by omega) ?_
   unfold zKr;rw[xG hi,zH,yV hi,bs,zC (by omega) (by omega),bs]
  ·unfold zKr
   simp
 ·rw[zAf (by omega),zH]
  exact .inr ⟨rfl,fun g=>h g.1⟩
theorem zKN{p:Int}{D:Nat}{B:Mx}(hp:Prime p)(hD:D≤8):IsB (zP0 p (D:Int) B) (Mat p D B):=by
 unfold zP0
 by_cases h:B.length=D
 ·rw[zAe (by omega),zI]
  refine(uZ B.length (fun i=>Row p D (B.getD i [])) rfl (fun i hi _=>?_) ?_).iff ⟨fun g=>⟨h,by grind⟩,fun g=>by rw[h];exact g.2⟩
  ·refine vA (zDo hp hD) (by omega) ?_
   unfold zKs;rw[xG hi,zH,yC [] hi,bs]
  ·unfold zKs
   simp
 ·rw[zAf (by omega),zH]
  exact .inr ⟨rfl,fun g=>h g.1⟩
theorem zES{p:Int}{D:Nat}{B:Mx}(hp:Prime p)(hD:D≤8)(hB:B.length=D):IsB (zP5 (zZ.mk p (D:Int) B)) (Mat p D B):=by
 unfold zP5;simp only
 rcases kP p with⟨h1,_⟩|⟨_,h2⟩
 ·rw[h1,bs,Jm,zI]
  rcases sH (D:Int) 0 8 with⟨h3,_⟩|⟨_,h4⟩
  ·rw[h3,bs,Jm,zI,aR (by omega),zI]
   refine(uZ (body:=zIi (zZ.mk p (D:Int) B)) D (fun i=>Row p D (B.getD i [])) rfl (fun i hi _=>?_) ?_).iff ⟨fun g=>⟨hB,g⟩,fun g=>g.2⟩
   ·refine vA (zDn hp hD) (by omega) ?_
    unfold zIi;simp only
    rw[hB,xG hi,zH,yC [] (by omega),bs]
   ·unfold zIi
    grind
  omega
 grind
theorem zE8{A B:Mx}(hA:A.length≤1000)(h:∀r∈A,r.length≤1000):zP1 A B=aN (A==B):=
 zF3 (t:=f_Z) (body:=zN5 A B) rfl (fun _=>rfl) (by omega) (by grind[zKL])
theorem zET{A B:Mx}(hA:A.length≤1000)(h:∀r∈A,r.length≤1000):zP9 A B=aN (A==B):=by unfold zP9;rw[zF3 (f:=zR5 A B) (t:=f_O) (body:=zNY A B) rfl (fun _=>rfl) (by omega) (by grind[zBD]),bs]
theorem Mat.small{p:Int}{D:Nat}{A:Mx}(h:Mat p D A)(hD:D≤8):A.length≤1000∧ ∀r∈A,r.length≤1000:=by
 refine⟨by have:=h.1;omega,fun r hr=>?_⟩;obtain⟨i,hi,rfl⟩:=L0.1 hr;have:=h.2 i (by rw[←h.1];exact hi);rw[J4,J5 hi]at this;have:=this.1
 grind
def zMQ(x:SPr)(m:zD)(D:Nat):Prop:=
 ∀i,i<x.zA.length→wM m.Prime D m.zL (J1 (at0 x.zA i).toNat i) (idM D)=wM m.Prime D m.zL (nw 0 (x.zW.getD i [])) (idM D)∧
  ∀j,i+1≤j→j<x.zA.length→PM m.Prime D (m.zL.getD j []) (m.zL.getD i [])=PM m.Prime D (m.zL.getD i []) (wM m.Prime D m.zL (nw 0 ((x.zB.getD i []).getD (j-(i+1)) [])) (idM D))
theorem uU{x:SPr}{v:List Int}{i:Nat}(ho:Os x.zA)(h:Exp x.zA v i):v.length=x.zA.length∧ ∀j,j<x.zA.length→0≤at0 v j∧at0 v j≤6:=by have h1:=h.1.1;refine⟨h1,fun j hj=>?_⟩;have:=h.1.2 j (by omega);have:=(ho.2 j hj).pos;omega
section
variable {x:SPr}{m:zD}{D:Nat} (h:Pres x) (hm:MOk x.zA.length m D)
 include h hm
theorem zKO{i:Nat}(hi:i<x.zA.length):(x.zW.getD i []).length=x.zA.length∧ ∀j,j<x.zA.length→0≤at0 (x.zW.getD i []) j∧at0 (x.zW.getD i []) j≤6:=have _:=hm;uU h.os (h.tl i hi).1
theorem zIR{i j:Nat}(hi:i<x.zA.length)(hj:j<(x.zB.getD i []).length):((x.zB.getD i []).getD j []).length=x.zA.length∧ ∀q,q<x.zA.length→0≤at0 ((x.zB.getD i []).getD j []) q∧at0 ((x.zB.getD i []).getD j []) q≤6:=have _:=hm;uU h.os ((h.tl i hi).2.2 j hj)
theorem zKP:IsB ((zG (zN9 x m) 0).bind fun r=>match r with|.inl _=>aN aP|.inr r=>aN r) (zMQ x m D):=by
 have h6:=h.os.1;have h7:=hm.p.pos;have h3:=hm.d3;have gg:=hm.len;refine uZ x.zA.length (fun i=>wM m.Prime D m.zL (J1 (at0 x.zA i).toNat i) (idM D)=wM m.Prime D m.zL (nw 0 (x.zW.getD i [])) (idM D)∧
  ∀j,i+1≤j→j<x.zA.length→PM m.Prime D (m.zL.getD j []) (m.zL.getD i [])=PM m.Prime D (m.zL.getD i []) (wM m.Prime D m.zL (nw 0 ((x.zB.getD i []).getD (j-(i+1)) [])) (idM D))) rfl (fun i hi _=>?_) ?_
 ·have ee:=(h.os.2 i hi).pos
  have pD:=h.pl;have gJ:=h.cl;obtain⟨p1,p2⟩:=zKO h hm hi;have t2:=(h.tl i hi).2.1;have hI:=zCr (p:=m.Prime) (D:=D) h7.1;unfold zN9;rw[xG hi,zH,hm.d,zE7 hm.p (by omega),bs];rw[xZ (S:=Mat m.Prime D) (body:=zN7 x m (i:Int)) (fun B=>B) (fun B=>PM m.Prime D B (m.zL.getD i [])) (at0 x.zA i) (by omega) (fun B hB=>zE4 (by omega) hB.1) (fun B q hB hq=>by
   unfold zN7;simp only
   rw[yV hi,bs,aS hq,zH,yC [] (by omega),bs,hm.d,sA hm.p (by omega) hB (hm.mat i hi),bs,zC (by omega) (by omega),bs,cs]) (fun B hB=>by
   unfold zN7;simp only
   rw[yV hi,bs,aR (by omega),zI]) hI,bs,yC [] (by omega),bs,zHR hm (by omega) p1 p2,bs,←zIQ]
  have hs:=(zCU (p:=m.Prime) (D:=D) (A:=m.zL) (by omega) (J1 (at0 x.zA i).toNat i) hI).small (by omega);rw[zE8 hs.1 hs.2,bs]
  by_cases hq:wM m.Prime D m.zL (J1 (at0 x.zA i).toNat i) (idM D)=wM m.Prime D m.zL (nw 0 (x.zW.getD i [])) (idM D)
  ·rw[show(wM m.Prime D m.zL (J1 (at0 x.zA i).toNat i) (idM D)==wM m.Prime D m.zL (nw 0 (x.zW.getD i [])) (idM D))=aP from by grind,Jm,zI,zC (by omega) (by omega),bs,cs]
   rcases chk (body:=zN8 x m (i:Int)) x.zA.length (i+1) (by omega) (fun j=>PM m.Prime D (m.zL.getD j []) (m.zL.getD i [])=PM m.Prime D (m.zL.getD i []) (wM m.Prime D m.zL (nw 0 ((x.zB.getD i []).getD (j-(i+1)) [])) (idM D))) (fun _=>aQ) (fun j h1 h2 _=>by
     obtain⟨c1,c2⟩:=zIR h hm (j:=j-(i+1)) hi (by omega);have hjm:=hm.mat j h2;have him:=hm.mat i hi;have hw:=zCU (p:=m.Prime) (D:=D) (A:=m.zL) (by omega) (nw 0 ((x.zB.getD i []).getD (j-(i+1)) [])) hI;have hs:=(zE4 (p:=m.Prime) (B:=m.zL.getD i []) (by omega) hjm.1).small (by omega);refine vA (o:=aN (PM m.Prime D (m.zL.getD j []) (m.zL.getD i [])==PM m.Prime D (m.zL.getD i []) (wM m.Prime D m.zL (nw 0 ((x.zB.getD i []).getD (j-(i+1)) [])) (idM D)))) (IsB.of_bool (by simp)) (by omega) ?_;unfold zN8;rw[xG h2,zH,yC (i:=j) [] (by omega),bs,yC (i:=i) [] (by omega),bs,hm.d,sA hm.p (by omega) hjm him,bs,bs,yC (i:=i) [] (by omega),bs,zC (by omega) (by omega),bs,zC (by omega) (by omega),bs,show(j:Int)-(i:Int)-1=((j-(i+1):Nat):Int)from by omega,yC [] (by omega),bs,zHR hm (by omega) c1 c2,bs,sA hm.p (by omega) him hw,bs,zE8 hs.1 hs.2]) (by
     unfold zN8;simp)with⟨g1,g2⟩|⟨j,j1,j2,g1,g2⟩
   ·grind
   ·right
    rw[g1,bs]
    grind
  grind
 ·unfold zN9
  simp
end
def zQw(x:SPr)(m:zD):Prop:=kQ x∧ ∃D,MOk x.zA.length m D∧zMQ x m D
theorem zEU{x:SPr}{m:zD}(hl:x.zA.length≤1048576):IsB (zP2 x m) (zQw x m):=by
 unfold zP2;rcases zIO hl with⟨h1,h2⟩|⟨h1,h2⟩
 ·have h6:=h2.1.os.1
  rw[h1,bs,zH];unfold f_h;rcases zEw m.Prime with⟨p1,p2⟩|⟨p1,p2⟩
  ·rw[p1,bs,Jm,zI]
   rcases zA3 m.Dim 1 3 with⟨d1,d2⟩|⟨d1,d2⟩
   ·rw[d1,bs,Jm,zI]
    obtain⟨D,hD⟩:∃D:Nat,m.Dim=(D:Int):=⟨m.Dim.toNat,by omega⟩
    by_cases gg:m.zL.length=x.zA.length
    ·rw[zAe (by omega),zI]
     rcases chk (body:=zN6 x m) x.zA.length 0 (Km _) (fun i=>Mat m.Prime D (m.zL.getD i [])) (fun _=>aQ) (fun i _ hi _=>by
       refine vA (zKN p2 (D:=D) (by omega)) (by omega) ?_;unfold zN6;rw[xG hi,zH,yC [] (by omega),bs,hD]) (by
       unfold zN6;simp)with⟨g1,g2⟩|⟨i,_,hi,g1,g2⟩
     ·rw[show((0:Nat):Int)=0 from rfl]at g1
      have hm:MOk x.zA.length m D:=⟨p2,hD,by omega,by omega,gg,by grind⟩;rw[g1,bs];refine(zKP h2.1 hm).b.iff ⟨fun k2=>⟨h2,D,hm,k2⟩,fun⟨_,D',gx,hr⟩=>?_⟩;have:D'=D:=by have:=gx.d;omega
      grind
     ·rw[show((0:Nat):Int)=0 from rfl]at g1
      rw[g1,bs];refine .inr ⟨rfl,fun⟨_,D',gx,_⟩=>g2 ?_⟩;have:D'=D:=by have:=gx.d;omega
      rw[←this];exact gx.mat i hi
    ·rw[zAf (by omega),zH]
     exact .inr ⟨rfl,fun⟨_,D',gx,_⟩=>gg gx.len⟩
   ·rw[d1,bs,Ka,zH]
    exact .inr ⟨rfl,fun⟨_,D',gx,_⟩=>d2 (by have:=gx.d;have:=gx.d1;have:=gx.d3;omega)⟩
  ·rw[p1,bs,Ka,zH]
   exact .inr ⟨rfl,fun⟨_,D',gx,_⟩=>p2 gx.p⟩
 ·rw[h1,bs,zI]
  exact .inr ⟨rfl,fun g=>h2 g.1⟩
end Go.Pl

namespace Go.Pl
open Go Go.Ab Go.Wk Go.Pc
abbrev Rl:=List Nat×List Nat
def r1(x:SPr)(i:Nat):Rl:=(J1 (at0 x.zA i).toNat i,nw 0 (x.zW.getD i []))
def r2(x:SPr)(i j:Nat):Rl:=([i+j+1,i],i::nw 0 ((x.zB.getD i []).getD j []))
def R2(x:SPr)(i:Nat):List Rl:=(Jo (x.zB.getD i []).length).map (r2 x i)
def wE(x:SPr):List Rl:=(Jo x.zA.length).map (r1 x)++(Jo x.zA.length).flatMap (R2 x)
abbrev enR(q:Rl):List Int×List Int:=(enW q.1,enW q.2)
section
variable {x:SPr} (h:Pres x)
 include h
theorem zMR{i:Nat}(hi:i<x.zA.length):(R2 x i).length≤9:=by
 have:=(h.tl i hi).2.1;have:=h.os.1
 grind[R2]
theorem zGB:∀i,i≤x.zA.length→((Jo i).flatMap (R2 x)).length≤9*i
 |0,_=>by simp
 |i+1,hi=>by
  have:=zGB i (by omega)
  grind[zMR,Kt]
theorem zPn{k i:Nat}:enW (J1 k i)=J1 k ((i:Int)+1):=by have _:=h;simp
theorem qK:f_l x=aN ((wE x).map enR):=by
 have h6:=h.os.1;have pD:=h.pl;have gJ:=h.cl;unfold f_l;have l1:=zQ (body:=zNT x) (r:=((Jo x.zA.length).map (r1 x)).map enR) (fun i=>(((Jo i).map (r1 x)).map enR,(i:Int))) x.zA.length (fun i hi=>by
  obtain⟨p1,p2⟩:=uU h.os (h.tl i hi).1;unfold zNT;simp only
  rw[xG hi,zH,yV hi,bs,zC (by omega) (by omega),bs,zHS (h.os.2 i hi),bs,yC [] (by omega),bs,sN (by omega) (by rw[p1];exact p2),bs,xD (by simp only[Jf,Lz,Jh,G7];omega),bs,bs,cs,Kt];simp only[Le,Jg,Ly,r1,enR,zPn h,cs]) (by
  unfold zNT;simp)
 rw[show((0:Nat):Int)=0 from rfl]at l1;simp only[List.range_zero,Ly]at l1;rw[l1,bs];have l3:=zQ (body:=zNV x) (r:=(wE x).map enR) (fun i=>(((Jo x.zA.length).map (r1 x)++(Jo i).flatMap (R2 x)).map enR,(i:Int))) x.zA.length (fun i hi=>by
  have t2:=(h.tl i hi).2.1;have hfm:=zGB h i (by omega);unfold zNV;simp only
  rw[xG hi,zH,yC [] (by omega),bs];have l2:=zQ (body:=zNU (((Jo x.zA.length).map (r1 x)++(Jo i).flatMap (R2 x)).map enR,(i:Int)) (x.zB.getD i [])) (r:=((Jo x.zA.length).map (r1 x)++(Jo (i+1)).flatMap (R2 x)).map enR)
   (fun j=>(((Jo x.zA.length).map (r1 x)++(Jo i).flatMap (R2 x)++(Jo j).map (r2 x i)).map enR,(j:Int))) (x.zB.getD i []).length (fun j hj=>by
    obtain⟨p1,p2⟩:=uU h.os ((h.tl i hi).2.2 j hj);have fm:=zCT 0 ((x.zB.getD i []).getD j []) (by grind);unfold zNU;simp only
    rw[xG hj,zH,yC [] hj,bs,zC (by omega) (by omega),bs,zC (by omega) (by omega),bs,zC (by omega) (by omega),bs,sN (by omega) (by rw[p1];exact p2),bs,xD (by simp only[Jf,Jh,G7];omega),bs,xD (by simp only[Jf,J9,Lz,Jh,G7];omega),bs,zC (by omega) (by omega),bs,cs,Kt];have e1:(i:Int)+(j:Int)+2=((i+j+1:Nat):Int)+1:=by omega
    simp only[Le,Jg,Ly,r2,enR,enW,Jb,Kh,e1];rfl) (by
    unfold zNU;simp only
    rw[jG,zI,Kt,Qa]
    grind[R2])
  rw[show((0:Nat):Int)=0 from rfl]at l2
  grind[zC]) (by
  unfold zNV;simp only
  rw[jG,zI];rfl)
 grind
theorem zFF{q:Rl}(hq:q∈wE x):((∀w∈q.1,w<x.zA.length)∧q.1.length≤1000)∧(∀w∈q.2,w<x.zA.length)∧q.2.length≤1000:=by
 have h6:=h.os.1;simp only[wE,Jq,Ja,Kd,Lx,R2]at hq;rcases hq with⟨i,hi,rfl⟩|⟨i,hi,j,hj,rfl⟩
 ·obtain⟨p1,p2⟩:=uU h.os (h.tl i hi).1
  have fm:=zCT 0 (x.zW.getD i []) (by rw[p1];exact fun i hi=>(p2 i hi).2);have ee:=(h.os.2 i hi).pos;refine⟨⟨fun w hw=>?_,?_⟩,fun w hw=>zKi 0 _ (by omega) w hw,by simp only[r1];omega⟩
  ·have:=List.eq_of_mem_replicate hw;omega
  ·simp only[r1,Kn];omega
 ·obtain⟨p1,p2⟩:=uU h.os ((h.tl i hi).2.2 j hj)
  have t2:=(h.tl i hi).2.1;have fm:=zCT 0 ((x.zB.getD i []).getD j []) (by rw[p1];exact fun i hi=>(p2 i hi).2);refine⟨⟨fun w hw=>?_,by simp[r2]⟩,fun w hw=>?_,by simp only[r2,Jh];omega⟩
  ·simp only[r2,Jl,List.not_mem_nil,or_false]at hw;omega
  ·simp only[r2,Jl]at hw
   rcases hw with rfl|hw
   ·exact hi
   ·exact zKi 0 _ (by omega) w hw
variable {m:zD}{D:Nat} (hm:MOk x.zA.length m D)
 include hm
theorem zHT:(∀q∈wE x,wM m.Prime D m.zL q.1 (idM D)=wM m.Prime D m.zL q.2 (idM D))↔zMQ x m D:=by
 have h7:=hm.p.pos;have hI:=zCr (p:=m.Prime) (D:=D) h7.1;have key:∀i j,i<x.zA.length→j<x.zA.length→ ∀ws,(wM m.Prime D m.zL [j,i] (idM D)=wM m.Prime D m.zL (i::ws) (idM D)↔PM m.Prime D (m.zL.getD j []) (m.zL.getD i [])=PM m.Prime D (m.zL.getD i []) (wM m.Prime D m.zL ws (idM D))):=fun i j hi hj ws=>by
  have ej:=hm.mat i hi;have ft:=hm.mat j hj;have e1:wM m.Prime D m.zL [j,i] (idM D)=PM m.Prime D (m.zL.getD j []) (m.zL.getD i []):=by show PM _ _ (PM _ _ (idM D) _) _=_;rw[zKf ft]
  have e2:wM m.Prime D m.zL (i::ws) (idM D)=PM m.Prime D (m.zL.getD i []) (wM m.Prime D m.zL ws (idM D)):=by show wM _ _ _ ws (PM _ _ (idM D) _)=_;rw[zKf ej,←zMP (by omega) ej.1 ws hI,zMN ej]
  rw[e1,e2]
 constructor
 ·intro g i hi
  have t2:=(h.tl i hi).2.1;refine⟨g (r1 x i) (by simp only[wE,Jq,Ja,Kd];grind),fun j h1 h2=>?_⟩;have:=g (r2 x i (j-(i+1))) (by
   simp only[wE,Jq,Lx,Kd,R2,Ja]
   grind)
  simp only[r2]at this;rw[show i+(j-(i+1))+1=j from by omega]at this
  grind
 ·intro g q hq
  simp only[wE,Jq,Ja,Kd,Lx,R2]at hq;rcases hq with⟨i,hi,rfl⟩|⟨i,hi,j,hj,rfl⟩
  ·exact(g i hi).1
  ·have t2:=(h.tl i hi).2.1
   have:=(g i hi).2 (i+j+1) (by omega) (by omega);rw[show i+j+1-(i+1)=j from by omega]at this;exact(key i (i+j+1) hi (by omega) _).2 this
theorem zKQ:IsB ((zG (zOa m ((wE x).map enR)) 0).bind fun r=>match r with|.inl _=>aN aP|.inr r=>aN r) (zMQ x m D):=by
 have h6:=h.os.1;have h7:=hm.p.pos;have h3:=hm.d3;have hI:=zCr (p:=m.Prime) (D:=D) h7.1;have hfm:=zGB h x.zA.length (Ji _);have mg:(wE x).length≤1000:=by simp only[wE,J9,Jf,Lz];omega
 refine(uZ (wE x).length (fun k=>wM m.Prime D m.zL ((wE x).getD k ([],[])).1 (idM D)=wM m.Prime D m.zL ((wE x).getD k ([],[])).2 (idM D)) rfl (fun k hk _=>?_) ?_).iff ⟨fun g=>(zHT h hm).1 fun q hq=>?_,fun g k hk=>(zHT h hm).2 g _ ?_⟩
 ·have gv:(wE x).getD k ([],[])∈wE x:=by
   rw[J4,J5 hk];exact Jw hk
  obtain⟨⟨g1,g2⟩,g3,g4⟩:=zFF h gv;have hs:=(zCU (p:=m.Prime) (D:=D) (A:=m.zL) (by omega) ((wE x).getD k ([],[])).1 hI).small (by omega);refine vA (o:=aN (wM m.Prime D m.zL ((wE x).getD k ([],[])).1 (idM D)==wM m.Prime D m.zL ((wE x).getD k ([],[])).2 (idM D))) (IsB.of_bool (by rw[beq_iff_eq])) (by omega) ?_;unfold zOa;rw[Jf,xG hk,zH,wG,Jj,J5 hk];rw[J4,J5 hk]at g1 g2 g3 g4 hs ⊢
  simp only[Lm,G9]at g1 g2 g3 g4 hs ⊢
  rw[bs,zBo hm h6 g1 (Lb g2 (by omega)),bs,zBo hm h6 g3 (Lb g4 (by omega)),bs];simp only
  rw[zET hs.1 hs.2]
 ·unfold zOa
  rw[Jf,jG,zI]
 ·obtain⟨k,hk,rfl⟩:=L0.1 hq
  have:=g k hk;rw[J4,J5 hk]at this;exact this
 ·rw[J4,J5 hk];exact Jw hk
end
theorem zEV{x:SPr}{m:zD}(hl:x.zA.length≤1048576)(_hal:m.zL.length≤1048576):IsB (f_v x m) (zQw x m):=by
 unfold f_v;rcases zCo hl with⟨h1,h2⟩|⟨h1,h2⟩
 ·have h6:=h2.1.os.1
  rw[h1,bs,Jm,zI];rcases kP m.Prime with⟨p1,p2⟩|⟨p1,p2⟩
  ·rw[p1,bs,Jm,zI]
   rcases sH m.Dim 1 3 with⟨d1,d2⟩|⟨d1,d2⟩
   ·rw[d1,bs,Jm,zI]
    obtain⟨D,hD⟩:∃D:Nat,m.Dim=(D:Int):=⟨m.Dim.toNat,by omega⟩
    by_cases gg:m.zL.length=x.zA.length
    ·rw[zAe (by omega),zI]
     rcases chk (body:=zNZ m) m.zL.length 0 (Km _) (fun i=>Mat m.Prime D (m.zL.getD i [])) (fun _=>aQ) (fun i _ hi _=>by
       unfold zNZ;rw[xG hi,zH,yC [] hi,bs,hD]
       by_cases hr:(m.zL.getD i []).length=D
       ·rw[zAe (by omega),zI]
        refine vA (zES p2 (D:=D) (by omega) hr) (by omega) ?_
        grind[zJl,yC]
       ·rw[zAf (by omega),zH]
        exact .inr ⟨rfl,fun g=>hr g.1⟩) (by
       unfold zNZ;simp)with⟨g1,g2⟩|⟨i,_,hi,g1,g2⟩
     ·rw[show((0:Nat):Int)=0 from rfl]at g1
      have hm:MOk x.zA.length m D:=⟨p2,hD,by omega,by omega,gg,by grind⟩;rw[g1,bs,qK h2.1];simp only
      rw[bs];refine(zKQ h2.1 hm).iff ⟨fun k2=>⟨h2,D,hm,k2⟩,fun⟨_,D',gx,hr⟩=>?_⟩;have:D'=D:=by have:=gx.d;omega
      grind
     ·rw[show((0:Nat):Int)=0 from rfl]at g1
      rw[g1,bs];refine .inr ⟨rfl,fun⟨_,D',gx,_⟩=>g2 ?_⟩;have:D'=D:=by have:=gx.d;omega
      rw[←this];exact gx.mat i (by omega)
    ·rw[zAf (by omega),zH]
     exact .inr ⟨rfl,fun⟨_,D',gx,_⟩=>gg gx.len⟩
   ·rw[d1,bs,Ka,zH]
    exact .inr ⟨rfl,fun⟨_,D',gx,_⟩=>d2 (by have:=gx.d;have:=gx.d1;have:=gx.d3;omega)⟩
  ·rw[p1,bs,Ka,zH]
   exact .inr ⟨rfl,fun⟨_,D',gx,_⟩=>p2 gx.p⟩
 ·rw[h1,bs,Ka,zH]
  exact .inr ⟨rfl,fun g=>h2 g.1⟩
end Go.Pl

namespace Go.Pl
open Go Go.Ab Go.Wk Go.Pc
theorem zFG{xs:List (List Int)}{i:Nat}(h:i<xs.length):(xs.take (i+1)).flatten=(xs.take i).flatten++xs.getD i []:=by grind[Jk]
theorem zKj{xs:List (List Int)}(i:Nat):(xs.take i).flatten.length≤xs.flatten.length:=by grind[Qg]
theorem zKR{k:Nat}(hk:k≤1000000):zOb (k:Int)=aN []:=by
 unfold zOb;rw[aR (by omega),zI,zC (by decide) (by decide),bs,zC (by omega) (by omega),bs]
 by_cases h:(k:Int)-(0-0)> 0
 ·rw[aS h,zH]
  have e:uW ([]:List Int) ((k:Int)-(0-0)) 0=aN (J1 k 0):=by
   unfold uW
   grind
  rw[e,bs];rfl
 grind
theorem zHU{xs:List (List Int)}(hx:xs.length≤1000)(hf:xs.flatten.length≤1000000):f_y xs=aN xs.flatten:=by
 unfold f_y;have l1:=zQ (body:=zOc xs) (r:=((xs.flatten.length:Nat):Int)) (fun i=>((((xs.take i).flatten.length:Nat):Int),(i:Int))) xs.length (fun i hi=>by
  have h1:=zFG hi;have h2:=zKj (xs:=xs) (i+1);have h3:=congrArg Q5 h1;rw[J9]at h3;unfold zOc;simp only
  rw[xG hi,zH,yC [] hi,bs,zC (by omega) (by omega),bs,aR (by omega),zI,zC (by omega) (by omega),bs,cs,h3]
  congr 3) (by
  unfold zOc;simp)
 rw[show((0:Nat):Int)=0 from rfl]at l1;simp only[Kg,List.flatten_nil,G7]at l1;rw[show((0:Nat):Int)=0 from rfl]at l1;rw[l1,bs,zKR hf,bs];have l2:=zQ (body:=zOd xs) (r:=xs.flatten) (fun i=>((xs.take i).flatten,(i:Int))) xs.length (fun i hi=>by
  have h1:=zFG hi;have h2:=zKj (xs:=xs) (i+1);have h3:=congrArg Q5 h1;rw[J9]at h3;unfold zOd;simp only
  rw[xG hi,zH,yC [] hi,bs,xD (by omega),bs,zC (by omega) (by omega),bs,cs,h1]) (by
  unfold zOd;simp)
 grind
end Go.Pl

namespace Go.Pl
open Go Go.Ab Go.Wk Go.Pc
section
variable {p:Int}
def zBF(p:Int)(D:Nat)(r:List Int)(k:Int)(s:List Int):List Int:=mkv D fun j=>(at0 r j+k*at0 s j)%p
theorem zAA{D:Nat}{r s:List Int}{k:Int}:(zBF p D r k s).length=D:=wA _ _
def zEW(p:Int)(D i:Nat)(r:List Int)(k:Int)(s:List Int):List Int:=mkv D fun j=>if j<i then(at0 r j+k*at0 s j)%p else at0 r j
theorem zFH{D:Nat}{r s:List Int}{k:Int}(hr:r.length=D):zEW p D 0 r k s=r:=by
 conv=>rhs;rw[zE3 hr]
 rfl
theorem zFI{D:Nat}{r s:List Int}{k:Int}:zEW p D D r k s=zBF p D r k s:=uT (by omega)
theorem zHV{D i:Nat}{r s:List Int}{k a:Int}(ha:a=(at0 r i+k*at0 s i)%p):(zEW p D i r k s).set i a=zEW p D (i+1) r k s:=by
 simp only[zEW];rw[zG7]
 grind
theorem zKk{D i:Nat}{r s:List Int}{k:Int}(hi:i<D):at0 (zEW p D i r k s) i=at0 r i:=by rw[zEW,tA hi,if_neg (by omega)]
theorem zCs{D i:Nat}{r s:List Int}{k:Int}:(zEW p D i r k s).length=D:=wA _ _
end
section
variable {p:Int} (hp:Prime p)
 include hp
theorem zHW{a:Int}(_h0:-1000≤a)(_h1:a≤1000):zGH a p=aN (a%p):=by
 have h7:=hp.pos;have e1:=Ja1 a (show 0<p by omega);have e2:=Uz a (show 0<p by omega);have e3:(Qi a p+p)%p=a%p:=by
  rw[Hp];have:=Ul a p
  conv=>rhs;rw[←this]
  simp
 unfold zGH vU;rw[if_neg (by omega),bs,zC (by omega) (by omega),bs,if_neg (by omega),bs,L4 (by omega),e3]
theorem zHX{a:Int}(_h0:-1000≤a)(_h1:a≤1000):zOn a p=aN (a%p):=by
 have h7:=hp.pos;have e1:=Ja1 a (show 0<p by omega);have e2:=Uz a (show 0<p by omega);have e3:(Qi a p+p)%p=a%p:=by
  rw[Hp];have:=Ul a p
  conv=>rhs;rw[←this]
  simp
 unfold zOn vU;rw[if_neg (by omega),bs]
 by_cases h:Qi a p<0
 ·rw[aS h,zH,zC (by omega) (by omega),bs,←e3,K1 (by omega) (by omega)]
 ·rw[aR h,zI,←e3,Hp,K1 (by omega) (by omega)]
theorem zMS{D:Nat}{r s:List Int}{k:Int}:Row p D (zBF p D r k s):=by have h7:=hp.pos;refine⟨wA _ _,fun i hi=>?_⟩;have e:at0 (zBF p D r k s) i=(at0 r i+k*at0 s i)%p:=tA hi;have e1:=L7 (at0 r i+k*at0 s i) (show p≠0 by omega);have e2:=Ko (at0 r i+k*at0 s i) (show 0<p by omega);omega
theorem zBG{k b:Int}(hk:-7≤k∧k≤7)(hb:0≤b∧b≤p-1):-49≤k*b∧k*b≤49:=by
 have h7:=hp.pos;rcases Int.le_total 0 k with h|h
 ·have h1:=He h hb.1
  have h2:=Kf hk.2 (show b≤7 by omega) hb.1 (by omega);omega
 ·have h1:=He (show 0≤ -k by omega) hb.1
  have h2:=Kf (show -k≤7 by omega) (show b≤7 by omega) hb.1 (by omega);rw[Int.neg_mul]at h1 h2;omega
theorem zFJ{D:Nat}{r s:List Int}{k:Int}(hr:Row p D r)(hs:Row p D s)(hk:-7≤k∧k≤7)(hD:D≤1000000):f_C r s k p=aN (zBF p D r k s):=by
 have h7:=hp.pos;have:=zQ (body:=zIk r s k p) (r:=zBF p D r k s) (fun i=>(zEW p D i r k s,(i:Int))) D (fun i hi=>by
  have a1:=hr.2 i hi;have a2:=hs.2 i hi;have a3:=zBG hp hk a2;unfold zIk;simp only
  rw[hr.1,xG hi,zH,yV (by grind[zCs]),bs,yV (by rw[hs.1];exact hi),bs,zC (by omega) (by omega),bs,zKk hi,zC (by omega) (by omega),bs,zHW hp (by omega) (by omega),bs,bs,zC (by omega) (by omega),bs,cs,Jn,zHV rfl]) (by
  unfold zIk;simp only
  rw[hr.1,jG,zI,zFI])
 rw[show((0:Nat):Int)=0 from rfl,zFH hr.1]at this
 grind[f_C]
theorem zAB{D:Nat}{r s:List Int}{k:Int}(hr:Row p D r)(hs:Row p D s)(hk:-7≤k∧k≤7)(hD:D≤1000000):f_M p r k s=aN (zBF p D r k s):=by
 have h7:=hp.pos;have:=zQ (body:=zOo p k s) (r:=zBF p D r k s) (fun i=>(zEW p D i r k s,(i:Int))) D (fun i hi=>by
  have a1:=hr.2 i hi;have a2:=hs.2 i hi;have a3:=zBG hp hk a2;unfold zOo;simp only
  rw[zCs,xG hi,zH,hs.1,xG hi,zH,yV (by grind[zCs]),bs,yV (by rw[hs.1];exact hi),bs,zC (by omega) (by omega),bs,zKk hi,zC (by omega) (by omega),bs,zHX hp (by omega) (by omega),bs,bs,zC (by omega) (by omega),bs,cs,Jn,zHV rfl]) (by
  unfold zOo;simp only
  rw[zCs,jG,zI,zFI])
 rw[show((0:Nat):Int)=0 from rfl,zFH hr.1]at this;unfold f_M;rw[qI (by rw[hr.1];omega),bs,this,bs]
end
theorem zE9{p:Int}{D:Nat}{r s:List Int}:zBF p D r (p-1) s=zBF p D r (-1) s:=uT fun j _=>by rw[show at0 r j+(p-1)*at0 s j=at0 r j+ -1*at0 s j+p*at0 s j from by grind,Int.add_mul_emod_self_left]
theorem zKS{p:Int}{D:Nat}{r s:List Int}(hr:Row p D r)(hs:Row p D s):(∀j,j<D→at0 (zBF p D r (-1) s) j=0)↔r=s:=by
 constructor
 ·intro h
  rw[zE3 hr.1,zE3 hs.1];refine uT fun j hj=>?_
  have h1:=h j hj;rw[zBF,tA hj]at h1;have a1:=hr.2 j hj;have a2:=hs.2 j hj;obtain⟨c,hc⟩:=U0 h1;have:c=0:=by
   rcases Int.lt_trichotomy c 0 with h|h|h
   ·have:=Lg (show c≤ -1 by omega) (show 0≤p by omega);omega
   ·exact h
   ·have:=Lg (show 1≤c by omega) (show 0≤p by omega);omega
  grind
 ·rintro rfl j hj
  rw[zBF,tA hj,show at0 r j+ -1*at0 r j=0 from by omega];simp
end Go.Pl

namespace Go.Pl
open Go Go.Ab Go.Wk Go.Pc
def VOk(n:Nat)(p:Int)(D:Nat)(vals:Mx):Prop:=vals.length=n∧ ∀i,i<n→Row p D (vals.getD i [])
def stp(m:zD)(D:Nat)(vals:Mx)(v:List Int)(w:Nat):List Int:=zBF m.Prime D (zCp m.Prime D v (m.zL.getD w [])) 1 (vals.getD w [])
def ev(m:zD)(D:Nat)(vals:Mx)(v:List Int)(ws:List Nat):List Int:=ws.foldl (stp m D vals) v
theorem zFK{m:zD}{D:Nat}{vals:Mx}{v:List Int}{a b:List Nat}:ev m D vals v (a++b)=ev m D vals (ev m D vals v a) b:=by simp[ev,Ux]
theorem zIS{m:zD}{D:Nat}{vals:Mx}{w:Nat}:∀(k:Nat)(v:List Int),ev m D vals v (J1 k w)=iter k (fun v=>stp m D vals v w) v
 |0,_=>rfl
 |k+1,v=>by rw[Jz];show ev m D vals (stp m D vals v w) (J1 k w)=_;rw[zIS k];rfl
abbrev z0(D:Nat):List Int:=J1 D 0
theorem zEA{p:Int}{D:Nat}(hp:0<p):Row p D (z0 D):=by
 refine⟨by simp,fun i hi=>?_⟩
 grind
theorem zHY{p:Int}{D:Nat}{r:List Int}{B:Mx}(hp:0<p):Row p D (zCp p D r B):=by
 refine⟨wA _ _,fun i hi=>?_⟩;have e1:=L7 (S D (fun l=>at0 r l*ent B l i)) (show p≠0 by omega);have e2:=Ko (S D (fun l=>at0 r l*ent B l i)) hp
 grind[zCp,tA]
section
variable {n D:Nat}{m:zD} (hm:MOk n m D) (hn:n≤9) {vals:Mx} (hv:VOk n m.Prime D vals)
 include hm hn hv
theorem kR{v:List Int}{w:Nat}:Row m.Prime D (stp m D vals v w):=by have _:=hn;have _:=hv;exact zMS hm.p
theorem kS{v:List Int}(h:Row m.Prime D v):∀ws,Row m.Prime D (ev m D vals v ws):=by
 intro ws
 induction ws generalizing v with
 |nil=>exact h
 |cons w ws ih=>exact ih (kR hm hn hv)
theorem kC{v:List Int}{w:Nat}(h:Row m.Prime D v)(hw:w<n):zIp m vals v (w:Int)=aN (stp m D vals v w):=by have _:=hn;have h7:=hm.p.pos;have h3:=hm.d3;unfold zIp;rw[yC [] (by rw[hm.len];exact hw),bs,hm.d,zE6 hm.p (by omega) h (hm.mat w hw),bs,yC [] (by rw[hv.1];exact hw),bs,zAB hm.p (zHY (by omega)) (hv.2 w hw) (by omega) (by omega),bs];rfl
theorem zAC{v x:List Int}(h:Row m.Prime D v)(hl:x.length=n)(hx:∀i,i<n→0≤at0 x i∧at0 x i≤6):f_p m vals v x=aN (ev m D vals v (nw 0 x)):=by
 have:=zQ (body:=zOq m vals x) (r:=ev m D vals v (nw 0 x)) (fun i=>(ev m D vals v (nw 0 (x.take i)),(i:Int))) n (fun i hi=>by
  have bA:=hx i hi;unfold zOq;simp only
  rw[hl,xG hi,zH];rw[xZ (S:=Row m.Prime D) (body:=zOp m vals x (ev m D vals v (nw 0 (x.take i)),(i:Int))) (fun v=>v) (fun v=>stp m D vals v i) (at0 x i) bA.1 (by grind[kR]) (fun u q hu hq=>by
   unfold zOp;simp only
   rw[yV (by omega),bs,aS hq,zH,kC hm hn hv hu hi,bs,zC (by omega) (by omega),bs,cs]) (fun u hu=>by
   unfold zOp;simp only
   rw[yV (by omega),bs,aR (by omega),zI]) (kS hm hn hv h _),bs,zC (by omega) (by omega),bs,cs]
  grind[zGA,zFK,zIS]) (by
  unfold zOq
  grind)
 rw[show((0:Nat):Int)=0 from rfl,Kg]at this
 grind[nw,ev,f_p]
theorem kT{ws:List Nat}(hw:∀w∈ws,w<n)(hl:ws.length≤1000):f_R m vals (enW ws)=aN (ev m D vals (z0 D) ws):=by
 have h7:=hm.p.pos;have h3:=hm.d3;unfold f_R;rw[hm.d,yO (by omega),bs];have hz:=zEA (p:=m.Prime) (D:=D) (by omega);have bO:(enW ws).length=ws.length:=by simp
 have:=zQ (body:=zOv m vals (enW ws)) (r:=ev m D vals (z0 D) ws) (fun i=>(ev m D vals (z0 D) (ws.take i),(i:Int))) ws.length (fun i hi=>by
  have pd:=hw ws[i] (Jw hi);have hr:=kS hm hn hv hz (ws.take i);unfold zOv;simp only
  rw[bO,xG hi,zH,wG,Jj,J5 hi];simp only[Lm];rw[bs,zC (by omega) (by omega),bs,show((ws[i]:Nat):Int)+1-1=((ws[i]:Nat):Int)from by omega,zBn hm hn pd,bs,kB hm.p (by omega) hr (hm.mat _ pd) rfl,bs,bs,yC [] (by rw[hv.1];exact pd),bs,zFJ hm.p (zHY (by omega)) (hv.2 _ pd) (by omega) (by omega),bs,zC (by omega) (by omega),bs,cs,Jk hi,zFK];rfl) (by
  unfold zOv;simp)
 rw[show((0:Nat):Int)=0 from rfl,Kg]at this
 grind[ev]
end
theorem zEB{v:List Int}(hl:v.length≤1000000):IsB (f_A v) (∀i,i<v.length→at0 v i=0):=by
 refine uZ v.length (fun i=>at0 v i=0) rfl (fun i hi _=>?_) ?_
 ·unfold zLh
  rw[xG hi,zH,yV hi,bs]
  by_cases h:at0 v i=0
  ·rw[show(at0 v i != 0)=aQ from by grind,zI,zC (by omega) (by omega),bs,cs];grind
  grind
 ·unfold zLh
  simp
theorem zFL{v:List Int}(hl:v.length≤1000000):IsB (zLn v) (∀i,i<v.length→at0 v i=0):=zEB hl
theorem zFM{xs:Mx}:(∀i,i<xs.flatten.length→at0 xs.flatten i=0)↔ ∀r∈xs,∀j,j<r.length→at0 r j=0:=by
 have key:∀v:List Int,(∀i,i<v.length→at0 v i=0)↔ ∀a∈v,a=0:=fun v=>by
  constructor
  ·intro h a ha
   obtain⟨i,hi,rfl⟩:=L0.1 ha
   grind
  ·intro h i hi
   have:=h v[i] (Jw hi)
   grind
 rw[key];simp only[List.mem_flatten,key];exact⟨fun h r hr a ha=>h a ⟨r,hr,ha⟩,by grind⟩
section
variable {x:SPr} (h:Pres x) {m:zD}{D:Nat} (hm:MOk x.zA.length m D) {vals:Mx} (hv:VOk x.zA.length m.Prime D vals)
 include h hm hv
abbrev dfc(m:zD)(D:Nat)(vals:Mx)(q:Rl):List Int:=zBF m.Prime D (ev m D vals (z0 D) q.1) (-1) (ev m D vals (z0 D) q.2)
def zRq(x:SPr)(m:zD)(D:Nat)(vals:Mx):Prop:=∀q∈wE x,ev m D vals (z0 D) q.1=ev m D vals (z0 D) q.2
theorem zKl:(wE x).length≤100:=by
 have _:=hv;have _:=hm;have h6:=h.os.1;have hfm:=zGB h x.zA.length (Ji _)
 grind[wE]
theorem sX:zOw x m vals=aN ((wE x).map (dfc m D vals)):=by
 have h6:=h.os.1;have h7:=hm.p.pos;have h3:=hm.d3;have mg:=zKl h hm hv;have hz:=zEA (p:=m.Prime) (D:=D) (by omega);unfold zOw;rw[qK h,bs];have:=zQ (body:=zIq m vals ((wE x).map enR)) (r:=(wE x).map (dfc m D vals)) (fun i=>(((wE x).map (dfc m D vals)).take i,(i:Int))) (wE x).length (fun i hi=>by
  have gv:(wE x)[i]∈wE x:=Jw hi;obtain⟨⟨g1,g2⟩,g3,g4⟩:=zFF h gv;unfold zIq;simp only
  rw[Jf,xG hi,zH,wG,Jj,J5 hi];simp only[Lm];rw[bs,kT hm h6 hv g1 g2,bs,kT hm h6 hv g3 g4,bs,zFJ hm.p (kS hm h6 hv hz _) (kS hm h6 hv hz _) (by omega) (by omega),bs,xD (by simp;omega),bs,zC (by omega) (by omega),bs,cs,Jk (by simpa using hi)];simp) (by
  unfold zIq;simp only
  rw[Jf,jG,zI,Jp (by simp)])
 grind
theorem zCt{q:Rl}:(∀j,j<(dfc m D vals q).length→at0 (dfc m D vals q) j=0)↔ev m D vals (z0 D) q.1=ev m D vals (z0 D) q.2:=by
 have h6:=h.os.1;have h7:=hm.p.pos
 grind[zEA,zAA,zKS,kS]
theorem zIT:IsB ((zOw x m vals).bind fun r3=>(f_y r3).bind fun r4=>f_A r4) (zRq x m D vals):=by
 have mg:=zKl h hm hv;have h3:=hm.d3;have pQ:∀xs:List Rl,((xs.map (dfc m D vals)).flatten).length≤xs.length*3:=fun xs=>by
  induction xs with
  |nil=>simp
  |cons q xs ih=>
   simp only[Jg,Uy,J9,Jh];have:(dfc m D vals q).length=D:=zAA;omega
 have:=pQ (wE x);rw[sX h hm hv,bs,zHU (by simp;omega) (by omega),bs];refine(zEB (by omega)).iff ?_;rw[zFM];constructor
 ·intro g q hq
  exact(zCt h hm hv).1 (by grind)
 ·intro g r hr
  obtain⟨q,hq,rfl⟩:=Ja.1 hr;exact(zCt h hm hv).2 (g q hq)
end
end Go.Pl

namespace Go.Pl
open Go Go.Ab Go.Wk Go.Pc
def BL(x:SPr)(i:Nat):List Rl:=(Jo i).flatMap fun i=>r1 x i::R2 x i
theorem zKm{x:SPr}{i:Nat}:BL x (i+1)=BL x i++(r1 x i::R2 x i):=by grind[BL,Kt]
theorem zMT{x:SPr}{q:Rl}:q∈BL x x.zA.length↔q∈wE x:=by
 simp only[BL,wE,Lx,Kd,Jl,Jq,Ja]
 grind
section
variable {x:SPr} (h:Pres x) {m:zD}{D:Nat} (hm:MOk x.zA.length m D) {vals:Mx} (hv:VOk x.zA.length m.Prime D vals)
 include h hm hv
abbrev fl(m:zD)(D:Nat)(vals:Mx)(xs:List Rl):List Int:=(xs.map (dfc m D vals)).flatten
theorem zIU(xs:List Rl):(fl m D vals xs).length≤xs.length*3:=by
 have _:=h;have _:=hv;have h3:=hm.d3
 induction xs with
 |nil=>simp[fl]
 |cons q xs ih=>
  simp only[fl,Jg,Uy,J9,Jh]at ih ⊢
  have:(dfc m D vals q).length=D:=zAA;omega
theorem zKn{xs:List Rl}{q:Rl}:fl m D vals xs++dfc m D vals q=fl m D vals (xs++[q]):=by have _:=h;have _:=hm;have _:=hv;grind
theorem zIV:∀i,i≤x.zA.length→(BL x i).length≤10*i
 |0,_=>by have _:=hm;have _:=hv;grind[BL]
 |i+1,hi=>by
  have:=zIV i (by omega)
  grind[zMR,zKm]
theorem zKT:f_n x m vals=aN (fl m D vals (BL x x.zA.length)):=by
 have h6:=h.os.1;have h7:=hm.p.pos;have h3:=hm.d3;have pD:=h.pl;have gJ:=h.cl;have hz:=zEA (p:=m.Prime) (D:=D) (by omega);unfold f_n;rw[hm.d,yO (by omega),bs];have l3:=zQ (body:=zOt x m vals D) (r:=fl m D vals (BL x x.zA.length)) (fun i=>(fl m D vals (BL x i),(i:Int))) x.zA.length (fun i hi=>by
  obtain⟨p1,p2⟩:=uU h.os (h.tl i hi).1;have t2:=(h.tl i hi).2.1;have ho:=(h.os.2 i hi).pos;have aD:=zIV h hm hv i (by omega);have pQ:=zIU h hm hv (BL x i);unfold zOt;simp only
  rw[xG hi,zH];rw[xZ (S:=Row m.Prime D) (body:=zOr x m vals (fl m D vals (BL x i),(i:Int))) (fun v=>v) (fun v=>stp m D vals v i) (at0 x.zA i) (by omega) (by grind[kR]) (fun u q hu hq=>by
   unfold zOr;simp only
   rw[yV hi,bs,aS hq,zH,kC hm h6 hv hu hi,bs,zC (by omega) (by omega),bs,cs]) (fun u hu=>by
   unfold zOr;simp only
   rw[yV hi,bs,aR (by omega),zI]) hz,bs,zC (by omega) (by omega),bs,yC [] (by omega),bs,zAC hm h6 hv hz p1 p2,bs,←zIS]
  have e1:f_M m.Prime (ev m D vals (z0 D) (J1 (at0 x.zA i).toNat i)) (m.Prime-1) (ev m D vals (z0 D) (nw 0 (x.zW.getD i [])))=aN (dfc m D vals (r1 x i)):=by rw[zAB hm.p (kS hm h6 hv hz _) (kS hm h6 hv hz _) (by omega) (by omega),zE9];rfl
  have hd1:(dfc m D vals (r1 x i)).length=D:=zAA;rw[e1,bs,xD (by omega),bs,zKn h hm hv,zC (by omega) (by omega),bs];have l2:=zQ (body:=zOs x m vals D (fl m D vals (BL x i),(i:Int))) (r:=fl m D vals (BL x (i+1))) (fun j=>(fl m D vals (BL x i++(r1 x i::(Jo j).map (r2 x i))),((i+1+j:Nat):Int))) (x.zB.getD i []).length (fun j hj=>by
   obtain⟨c1,c2⟩:=uU h.os ((h.tl i hi).2.2 j hj);have au:=zIU h hm hv (BL x i++(r1 x i::(Jo j).map (r2 x i)));simp only[J9,Jh,Jf,Lz]at au;have fq:i+1+j<x.zA.length:=by omega
   have s1:=kC hm h6 hv hz fq;have s2:=kC hm h6 hv (kR hm h6 hv (v:=z0 D) (w:=i+1+j)) hi;have s3:=kC hm h6 hv hz hi;have s4:=zAC hm h6 hv (kR hm h6 hv (v:=z0 D) (w:=i)) c1 c2;unfold zOs;simp only
   rw[xG fq,zH,s1,bs,s2,bs,s3,bs,yC [] (by omega),bs,zC (by omega) (by omega),bs,zC (by omega) (by omega),bs,show(((i+1+j:Nat):Int)-(i:Int)-1)=(j:Int)from by omega,yC [] hj,bs,s4,bs,zC (by omega) (by omega),bs];have e2:f_M m.Prime (stp m D vals (stp m D vals (z0 D) (i+1+j)) i) (m.Prime-1) (ev m D vals (stp m D vals (z0 D) i) (nw 0 ((x.zB.getD i []).getD j [])))=aN (dfc m D vals (r2 x i j)):=by
    rw[zAB hm.p (kR hm h6 hv) (by grind[kS,kR]) (by omega) (by omega),zE9];simp only[dfc,r2,ev,List.foldl_cons,List.foldl_nil]
    grind
   have hd2:(dfc m D vals (r2 x i j)).length=D:=zAA;rw[e2,bs,xD (by omega),bs,zKn h hm hv,zC (by omega) (by omega),bs,cs,Kt];simp only[Le,Jg,Ly,Jb,Kl];rfl) (by
   unfold zOs;simp only
   rw[show i+1+(x.zB.getD i []).length=x.zA.length from by omega,jG,zI,zKm];rfl)
  grind) (by
  unfold zOt;simp)
 rw[show((0:Nat):Int)=0 from rfl,show BL x 0=[]from rfl]at l3
 grind
theorem zMU:IsB (zPI x m vals) (zRq x m D vals):=by
 have h6:=h.os.1;have aD:=zIV h hm hv x.zA.length (Ji _);have pQ:=zIU h hm hv (BL x x.zA.length);unfold zPI;rw[zKT h hm hv,bs];refine(IsB.b (zFL (by omega))).iff ?_;rw[zFM];constructor
 ·intro g q hq
  exact(zCt h hm hv).1 (g _ (Ja.2 ⟨q,zMT.2 hq,rfl⟩))
 ·intro g r hr
  obtain⟨q,hq,rfl⟩:=Ja.1 hr;exact(zCt h hm hv).2 (g q (zMT.1 hq))
end
theorem zKU{m:zD}{D:Nat}{vals:Mx}(hp:Prime m.Prime)(hd:m.Dim=(D:Int))(hD:D≤8)(hl:vals.length≤1048576):IsB (zR9 m vals) (∀i,i<vals.length→Row m.Prime D (vals.getD i [])):=by
 refine uZ vals.length (fun i=>Row m.Prime D (vals.getD i [])) rfl (fun i hi _=>?_) ?_
 ·refine vA (zDn hp hD (r:=vals.getD i [])) (by omega) ?_
  unfold zKx;rw[xG hi,zH,yC [] hi,bs,hd]
 ·unfold zKx
  simp
theorem zKV{m:zD}{D:Nat}{vals:Mx}(hp:Prime m.Prime)(hd:m.Dim=(D:Int))(hD:D≤8)(hl:vals.length≤1048576):IsB (zR8 m vals) (∀i,i<vals.length→Row m.Prime D (vals.getD i [])):=by
 refine uZ vals.length (fun i=>Row m.Prime D (vals.getD i [])) rfl (fun i hi _=>?_) ?_
 ·refine vA (zDo hp hD (r:=vals.getD i [])) (by omega) ?_
  unfold zKw;rw[xG hi,zH,yC [] hi,bs,hd]
 ·unfold zKw
  simp
theorem zMV{a b:Int}(h:a=b):(a==b)=aP:=by simp[h]
theorem zKo{a b:Int}(h:a≠b):(a==b)=aQ:=by simp[h]
theorem zHZ{x:SPr}{m:zD}{D:Nat}{vals:Mx}(hp:Prime m.Prime)(hd:m.Dim=(D:Int))(hD:D≤8)(hl:vals.length≤1048576):IsB (zPJ x m vals) (VOk x.zA.length m.Prime D vals):=by
 unfold zPJ
 by_cases hn:vals.length=x.zA.length
 ·rw[zMV (by omega),zH]
  exact(IsB.b (zKU hp hd hD hl)).iff ⟨fun g=>⟨hn,by grind⟩,fun g i hi=>g.2 i (by omega)⟩
 ·rw[zKo (by omega),zI];exact .inr ⟨rfl,fun g=>hn g.1⟩
theorem zIa{x:SPr}{m:zD}{D:Nat}{vals:Mx}(hp:Prime m.Prime)(hd:m.Dim=(D:Int))(hD:D≤8)(hl:vals.length≤1048576):IsB (zPH x m vals) (VOk x.zA.length m.Prime D vals):=by
 unfold zPH
 by_cases hn:vals.length=x.zA.length
 ·rw[zMV (by omega),zH]
  exact(IsB.b (zKV hp hd hD hl)).iff ⟨fun g=>⟨hn,by grind⟩,fun g i hi=>g.2 i (by omega)⟩
 ·rw[zKo (by omega),zI];exact .inr ⟨rfl,fun g=>hn g.1⟩
end Go.Pl

namespace Go.Pl
open Go Go.Ab Go.Wk Go.Pc
theorem IsB.both{o o':Option Bool}{P:Prop}(h:IsB o P)(h':IsB o' P):(o=aN aP∧o'=aN aP∧P)∨(o=aN aQ∧o'=aN aQ∧ ¬P):=by
 rcases h with⟨h1,h2⟩|⟨h1,h2⟩<;>rcases h' with⟨h3,h4⟩|⟨h3,h4⟩
 all_goals grind
end Go.Pl

namespace Go.Pl
open Go Go.Ab Go.Wk Go.Pc
def Sp(p:Int)(n:Nat)(R:Mx)(v:List Int):Prop:=∃c:Nat→Int,∀j,j<n→(S R.length fun i=>c i*ent R i j)%p=at0 v j%p
def zUg(p:Int)(n:Nat)(R R':Mx):Prop:=(∀i,i<R.length→Sp p n R' (R.getD i []))∧ ∀i,i<R'.length→Sp p n R (R'.getD i [])
end Go.Pl

namespace Go.Pl
open Go Go.Ab Go.Wk Go.Pc
def mkR(m:Nat)(F:Nat→List Int):Mx:=(Jo m).map F
theorem zPo{m:Nat}{F:Nat→List Int}:(mkR m F).length=m:=by simp[mkR]
theorem zPp{m:Nat}{F:Nat→List Int}{i:Nat}(h:i<m):(mkR m F).getD i []=F i:=by simp[mkR,J4,h]
theorem zRr{R:Mx}{m:Nat}(h:R.length=m):R=mkR m (fun i=>R.getD i []):=zG8 (D:=m) h zPo (by grind[zPp])
theorem zMW{s:Nat→Int×Int×Int×Int}(n:Nat){r:Int×Int}(h:∀i,i<n→zLm (s i)=aN (.inl (s (i+1))))(he:zLm (s n)=aN (.inr r)){p q:Int}(hq:zGH r.2 p=aN q)(h1:r.1=1)(hs:s 0=(p,(s 0).2.1,0,1)):
  f_N (s 0).2.1 p=aN (q,aP):=by
 unfold f_N;rw[←hs,zQ s n h he,bs,hq,bs,h1];rfl
def zMX:List (Int×Int×Int×Int)→Nat→Int×Int×Int×Int:=fun l i=>l.getD i (0,0,0,0)
theorem vC(l:List (Int×Int×Int×Int))(n:Nat){r:Int×Int}(h:∀i,i<n→zLm (zMX l i)=aN (.inl (zMX l (i+1))))(he:zLm (zMX l n)=aN (.inr r)){p q x:Int}(hq:zGH r.2 p=aN q)(h1:r.1=1)(hs:zMX l 0=(p,x,0,1)):
  f_N x p=aN (q,aP):=by
 have:=zMW (s:=zMX l) n h he hq h1 (by rw[hs])
 grind
theorem lt1{P:Nat→Prop}(h0:P 0):∀i,i<1→P i:=by grind
theorem lt2{P:Nat→Prop}(h0:P 0)(h1:P 1):∀i,i<2→P i:=by grind
theorem lt3{P:Nat→Prop}(h0:P 0)(h1:P 1)(h2:P 2):∀i,i<3→P i:=by grind
theorem zCu{p x:Int}(hp:Prime p)(h0:1≤x)(h1:x≤p-1):∃r,f_N x p=aN (r,aP)∧0≤r∧r≤p-1∧(x*r)%p=1:=by
 have c:(p=2∧x=1)∨(p=3∧(x=1∨x=2))∨(p=5∧(x=1∨x=2∨x=3∨x=4))∨(p=7∧(x=1∨x=2∨x=3∨x=4∨x=5∨x=6)):=by unfold Prime at hp;omega
 rcases c with⟨rfl,rfl⟩|⟨rfl,rfl|rfl⟩|⟨rfl,rfl|rfl|rfl|rfl⟩|⟨rfl,rfl|rfl|rfl|rfl|rfl|rfl⟩
 ·exact⟨1,vC [(2,1,0,1),(1,0,1,-2)] 1 (lt1 (by rfl)) (r:=(1,1)) (by rfl) (by rfl) rfl rfl,by decide,by decide,by decide⟩
 ·exact⟨1,vC [(3,1,0,1),(1,0,1,-3)] 1 (lt1 (by rfl)) (r:=(1,1)) (by rfl) (by rfl) rfl rfl,by decide,by decide,by decide⟩
 ·exact⟨2,vC [(3,2,0,1),(2,1,1,-1),(1,0,-1,3)] 2 (lt2 (by rfl) (by rfl)) (r:=(1,-1)) (by rfl) (by rfl) rfl rfl,by decide,by decide,by decide⟩
 ·exact⟨1,vC [(5,1,0,1),(1,0,1,-5)] 1 (lt1 (by rfl)) (r:=(1,1)) (by rfl) (by rfl) rfl rfl,by decide,by decide,by decide⟩
 ·exact⟨3,vC [(5,2,0,1),(2,1,1,-2),(1,0,-2,5)] 2 (lt2 (by rfl) (by rfl)) (r:=(1,-2)) (by rfl) (by rfl) rfl rfl,by decide,by decide,by decide⟩
 ·exact⟨2,vC [(5,3,0,1),(3,2,1,-1),(2,1,-1,2),(1,0,2,-5)] 3 (lt3 (by rfl) (by rfl) (by rfl)) (r:=(1,2)) (by rfl) (by rfl) rfl rfl,by decide,by decide,by decide⟩
 ·exact⟨4,vC [(5,4,0,1),(4,1,1,-1),(1,0,-1,5)] 2 (lt2 (by rfl) (by rfl)) (r:=(1,-1)) (by rfl) (by rfl) rfl rfl,by decide,by decide,by decide⟩
 ·exact⟨1,vC [(7,1,0,1),(1,0,1,-7)] 1 (lt1 (by rfl)) (r:=(1,1)) (by rfl) (by rfl) rfl rfl,by decide,by decide,by decide⟩
 ·exact⟨4,vC [(7,2,0,1),(2,1,1,-3),(1,0,-3,7)] 2 (lt2 (by rfl) (by rfl)) (r:=(1,-3)) (by rfl) (by rfl) rfl rfl,by decide,by decide,by decide⟩
 ·exact⟨5,vC [(7,3,0,1),(3,1,1,-2),(1,0,-2,7)] 2 (lt2 (by rfl) (by rfl)) (r:=(1,-2)) (by rfl) (by rfl) rfl rfl,by decide,by decide,by decide⟩
 ·exact⟨2,vC [(7,4,0,1),(4,3,1,-1),(3,1,-1,2),(1,0,2,-7)] 3 (lt3 (by rfl) (by rfl) (by rfl)) (r:=(1,2)) (by rfl) (by rfl) rfl rfl,by decide,by decide,by decide⟩
 ·exact⟨3,vC [(7,5,0,1),(5,2,1,-1),(2,1,-1,3),(1,0,3,-7)] 3 (lt3 (by rfl) (by rfl) (by rfl)) (r:=(1,3)) (by rfl) (by rfl) rfl rfl,by decide,by decide,by decide⟩
 ·exact⟨6,vC [(7,6,0,1),(6,1,1,-1),(1,0,-1,7)] 2 (lt2 (by rfl) (by rfl)) (r:=(1,-1)) (by rfl) (by rfl) rfl rfl,by decide,by decide,by decide⟩
end Go.Pl

namespace Go.Pl
open Go Go.Ab Go.Wk Go.Pc
end Go.Pl

namespace Go.Pl
open Go Go.Ab Go.Wk Go.Pc
end Go.Pl

namespace Go.Pl
open Go Go.Ab Go.Wk Go.Pc
end Go.Pl

namespace Go.Pl
open Go Go.Ab Go.Wk Go.Pc
theorem zMY{p x:Int}(hp:Prime p)(h0:1≤x)(h1:x≤p-1):∃r,zPG x p=aN r∧0≤r∧r≤p-1∧(x*r)%p=1:=by
 have h7:=hp.pos;have hx:∃k:Nat,1≤k∧(k:Int)<p∧(x*(k:Int))%p=1:=by
  obtain⟨r,_,r1,r2,r3⟩:=zCu hp h0 h1;refine⟨r.toNat,?_,by omega,by grind⟩;rcases Int.lt_or_eq_of_le r1 with g|g
  ·omega
  ·rw[←g]at r3;simp at r3
 obtain⟨k,⟨k1,k2,k3⟩,cy⟩:=zFg hx;have body:∀i:Nat,1≤i→(i:Int)<p→zIo x p (i:Int)=cond ((x*(i:Int))%p==1) (aN (.inr (.inr (i:Int)))) (aN (.inl ((i+1:Nat):Int))):=fun i hi hip=>by
  have a3:=He (show 0≤x by omega) (show 0≤(i:Int)by omega);have a4:=zBG hp (k:=(i:Int)) (by omega) (b:=x) ⟨by omega,h1⟩;rw[Int.mul_comm]at a4;unfold zIo;rw[aS hip,zH,zHX hp (by omega) (by omega),bs,K1 (by omega) (by omega),zC (by omega) (by omega),bs];unfold vU;rw[if_neg (by omega),bs,L4 a3]
  by_cases hh:(x*(i:Int))%p=1
  ·grind
  ·rw[zKo hh,zI,zI,zC (by omega) (by omega),bs,cs]
 have bc:∀q,q+1≤k→zG (zIo x p) ((k-q:Nat):Int)=aN (.inr (k:Int)):=by
  intro q
  induction q with
  |zero=>
   intro _;rw[yU,show k-0=k from rfl,body k k1 k2,zMV k3,zH]
  |succ q ih=>
   intro hq;have gj:(x*((k-(q+1):Nat):Int))%p≠1:=by grind
   rw[yU,body _ (by omega) (by omega),zKo gj,zI,show k-(q+1)+1=k-q from by omega]
   grind
 have:=bc (k-1) (by omega);rw[show k-(k-1)=1 from by omega,show((1:Nat):Int)=1 from rfl]at this
 grind[zPG]
end Go.Pl

namespace Go.Pl
open Go Go.Ab Go.Wk Go.Pc
end Go.Pl

namespace Go.Pl
open Go Go.Ab Go.Wk Go.Pc
end Go.Pl

namespace Go.Pl
open Go Go.Ab Go.Wk Go.Pc
theorem zMZ{β:Type}{body:List β×Int→Option ((List β×Int)⊕List β)}(n:Nat)(F:Nat→β)(h:∀i acc,i<n→acc.length=i→body (acc,(i:Int))=aN (.inl (acc++[F i],((i+1:Nat):Int))))(he:∀acc,body (acc,(n:Int))=aN (.inr acc)):
  zG body ([],0)=aN ((Jo n).map F):=by
 have:=zQ (body:=body) (r:=(Jo n).map F) (fun i=>((Jo i).map F,(i:Int))) n (by grind[Kt]) (he _);exact this
end Go.Pl

namespace Go.Pl
open Go Go.Ab Go.Wk Go.Pc
end Go.Pl

namespace Go.Pl
open Go Go.Ab Go.Wk Go.Pc
end Go.Pl

namespace Go.Pl
open Go Go.Ab Go.Wk Go.Pc
theorem zQx{α:Type}{c:α→Nat}{b:Nat}:∀{xs:List α},(∀x∈xs,c x≤b)→sm c xs≤xs.length*b
 | [],_=>by simp[sm]
 |x::xs,h=>by
  have h1:=zQx (xs:=xs) fun y hy=>h y (by simp[hy])
  grind[sm,Kz]
end Go.Pl

namespace Go.Pl
open Go Go.Ab Go.Wk Go.Pc
def zNa(x:SPr):Nat:=c1 x.zA+sm c1 x.zW+sm (sm c1) x.zB
def zQy(x:SPr)(k:Int):SPr:=⟨m1 k x.zA,m2 (k+c1 x.zA) x.zW,m3 (k+c1 x.zA+sm c1 x.zW) x.zB⟩
theorem zKp{x:SPr}(h:zA2 x):zNa x≤3145728:=by
 obtain⟨h1,h2,h3⟩:=h;have g2:=zG4 (x:=x.zW)
 grind[zID,zNa]
theorem zBc{x:SPr}{k:Int}(h:zA2 x)(k0:0≤k)(k1:k≤1000000000):zPD x k=aN (k+zNa x,zQy x k):=by
 have ht:=zKp h;simp only[zNa]at ht;unfold zPD;rw[zEr h.1 k0 (by omega),bs,qZ h.2.1 (by omega) (by omega),bs,zCk h.2.2 (by omega) (by omega),bs]
 grind[zNa,zQy]
end Go.Pl

namespace Go.Pl
open Go Go.Ab Go.Wk Go.Pc
theorem zKW{xs:Mx}(h:xs.length≤100000)(hl:∀i,i<xs.length→(xs.getD i []).length≤1000000):zPK xs=aN xs:=by
 unfold zPK;rw[zMZ (body:=zIr xs) xs.length (fun i=>xs.getD i []) (fun i acc hi ha=>by
  unfold zIr;simp only
  rw[xG hi,zH,yC [] hi,bs,qI (hl i hi),bs,xD (by simp;omega),bs,zC (by omega) (by omega),bs,cs]) (fun acc=>by
  unfold zIr;simp),bs]
 congr 1
 exact(zRr rfl).symm
end Go.Pl

namespace Go.Pl
open Go Go.Ab Go.Wk Go.Pc
end Go.Pl

namespace Go.Pl
open Go Go.Ab Go.Wk Go.Pc
end Go.Pl

namespace Go.Pl
open Go Go.Ab Go.Wk Go.Pc
end Go.Pl

namespace Go.Pl
open Go Go.Ab Go.Wk Go.Pc
end Go.Pl

namespace Go.Pl
open Go Go.Ab Go.Wk Go.Pc
end Go.Pl

namespace Go.Pl
open Go Go.Ab Go.Wk Go.Pc
end Go.Pl

namespace Go.Pl
open Go Go.Ab Go.Wk Go.Pc
end Go.Pl

namespace Go.Pl
open Go Go.Ab Go.Wk Go.Pc
end Go.Pl

namespace Go.Pl
open Go Go.Ab Go.Wk Go.Pc
end Go.Pl

namespace Go.Pl
open Go Go.Ab Go.Wk Go.Pc
end Go.Pl

namespace Go.Pl
open Go Go.Ab Go.Wk Go.Pc
end Go.Pl

namespace Go.Pl
open Go Go.Ab Go.Wk Go.Pc
theorem zIb{α:Type}{f:α→α}{a:α}(h:f a=a):∀k,iter k f a=a
 |0=>rfl
 |k+1=>by show iter k f (f a)=a;rw[h];exact zIb h k
theorem zCV{x:SPr}(h:Pres x):∀(d k:Nat),k+d=x.zA.length→wK (suf x k)→ ∀m,d+1≤m→ ∀v,V (suf x k) v→ ∃w,V (suf x k) w∧mul (suf x k) v w=zeros (suf x k).length∧zJm m x k (fv k v)=aN (fv k w)
 |0,k,hk,_,m,hm,v,hv=>by
  have h6:=h.os.1;obtain⟨m,rfl⟩:∃m',m=m'+1:=⟨m-1,by omega⟩;rw[sV (by omega)]at hv ⊢
  obtain rfl:v=[]:=hv;refine⟨[],rfl,rfl,?_⟩;show b_e _ x k _=_;unfold b_e;rw[aS (by omega),zH,yO (by omega),bs]
  simp_all[zeros]
 |d+1,k,hkd,hc,m,hm,v,hv=>by
  have h6:=h.os.1;obtain⟨m,rfl⟩:∃m',m=m'+1:=⟨m-1,by omega⟩;have hk:k<x.zA.length:=by omega
  have ee:=(h.os.2 k hk).pos;have hcQ:wK (suf x (k+1)):=zA7 hc 1;have ih:=zCV h d (k+1) (by omega) hcQ m (by omega);have G:=zA8 h (by omega) hc;have GQ:=zA8 h (by omega) hcQ;have okP:=h.okAt (k:=k) (by omega);have okQ:=h.okAt (k:=k+1) (by omega);have fF:=zBC h (by omega) hv;have cM:=xH x (k+1);obtain⟨w1,w2⟩:=zRp h hk;rw[yJ hk]at hv G okP;obtain⟨a,r,rfl⟩:∃a r,v=a::r:=by
   cases v with
   |nil=>exact hv.elim
   |cons a r=>simp
  have eM:(lvl x k).o=at0 x.zA k:=rfl;obtain⟨⟨a0,a1⟩,hr⟩:=hv;rw[eM]at a1;obtain⟨r',bG,hmr,cB⟩:=ih r hr;have hz:V (suf x (k+1)) (zeros (suf x (k+1)).length):=wS okQ;have hzc:zeros (lvl x k::suf x (k+1)).length=0::zeros (suf x (k+1)).length:=rfl;have mr:∀(c:Int)(u:Vec),0≤c→c<at0 x.zA k→V (suf x (k+1)) u→V (lvl x k::suf x (k+1)) (c::u):=fun c u h0 h1 hu=>⟨⟨h0,h1⟩,hu⟩
  have e2:mul (lvl x k::suf x (k+1)) (0::r) (0::r')=zeros (lvl x k::suf x (k+1)).length:=by
   rw[yG,eM,if_neg (by omega),hzc]
   grind[iter]
  show∃w,_∧_∧b_e (zJm m) x k (fv k (a::r))=aN (fv k w);unfold b_e;rw[aR (by omega),zI,qI (by omega),bs,zEy,bs,zC (by omega) (by omega),bs,cs,Jn,zDl,jH,show zeros (k+1)++r=fv (k+1) r from rfl,cB,bs,bs];rw[yJ hk]
  by_cases ha:a=0
  ·subst ha
   rw[show((0:Int)==0)=aP from rfl,zH];exact⟨0::r',by grind,e2,by rw[fv,←jH]⟩
  ·rw[show(a==0)=aQ from by grind,zI,yO (by omega),bs,yV hk,bs,bs,zC (by omega) (by omega),bs,wG,Js,if_pos hk,bs]
   have ck:(J1 x.zA.length (0:Int)).set k (at0 x.zA k-a)=zeros k++(at0 x.zA k-a)::zeros (suf x (k+1)).length:=by
    have e:J1 x.zA.length (0:Int)=zeros k++0::zeros (x.zA.length-(k+1)):=by simp only[zeros];rw[←Jz,K0];congr 1;omega
    grind[zDl]
   obtain⟨w',hJ,hmw,hfw⟩:=ih (lvl x k).w w2;have hA:=mr a _ a0 a1 hz;have hR:=mr 0 r (by omega) (by omega) hr;have bS:=mr 0 r' (by omega) (by omega) bG;have hT:=mr (at0 x.zA k-a) _ (by omega) (by omega) hz;have hW:=mr 0 (lvl x k).w (by omega) (by omega) w2;have pZ:=mr 0 w' (by omega) (by omega) hJ;have gu:sig (suf x (k+1)) (lvl x k) (zeros (suf x (k+1)).length)=zeros (suf x (k+1)).length:=by grind[sig,jX]
   have e1:mul (lvl x k::suf x (k+1)) (a::zeros (suf x (k+1)).length) (0::r)=a::r:=by rw[yG,eM,if_neg (by omega),show iter (0:Int).toNat (sig (suf x (k+1)) (lvl x k)) (zeros (suf x (k+1)).length)=zeros (suf x (k+1)).length from rfl,GQ.onel hr,Ln]
   have e3:mul (lvl x k::suf x (k+1)) (a::zeros (suf x (k+1)).length) ((at0 x.zA k-a)::zeros (suf x (k+1)).length)=0::(lvl x k).w:=by
    rw[yG,eM,if_pos (by omega),zIb gu,GQ.oner hz,GQ.oner w2]
    grind
   have e4:mul (lvl x k::suf x (k+1)) (0::(lvl x k).w) (0::w')=zeros (lvl x k::suf x (k+1)).length:=by
    rw[yG,eM,if_neg (by omega),hzc]
    grind[iter]
   have aI:=G.cl bS hT;have bx:=G.cl aI pZ;have spA:=zCl h (k:=k) (by omega);rw[ck,show fv (k+1) r'=zeros k++0::r' from by rw[jH],spA _ _ (by grind[yJ]) (by grind[yJ]),bs,bs,w1,bs,hfw,bs,show fv (k+1) w'=zeros k++0::w' from by rw[jH],yJ hk];have:=spA _ _ (by rw[yJ hk];exact aI) (by rw[yJ hk];exact pZ);rw[yJ hk]at this;rw[this,bs];refine⟨_,bx,?_,rfl⟩;rw[←e1,G.assoc hA hR bx,←G.assoc hR aI pZ,←G.assoc hR bS hT,e2,G.onel hT,←G.assoc hA hT pZ,e3,e4]
theorem zIc{x:SPr}(h:Pres x)(hc:wK (suf x 0)){v:Vec}(hv:V (suf x 0) v):∃w,V (suf x 0) w∧mul (suf x 0) v w=zeros (suf x 0).length∧zOm x v=aN w:=by obtain⟨w,h1,h2,_⟩:=zCV h x.zA.length 0 (by omega) hc (x.zA.length+1) (by omega) v hv;refine⟨w,h1,h2,?_⟩;unfold zOm f_e;rw[zAx (r:=w) (x.zA.length+1) fun m hm=>?_,bs];obtain⟨w',g1,g2,g3⟩:=zCV h x.zA.length 0 (by omega) hc m hm v hv;have G:=zA8 h (by omega) hc;have e:w=w':=G.cancel_l hv h1 g1 (by rw[h2,g2]);rw[e];exact g3
end Go.Pl

namespace Go.Pl
open Go Go.Ab Go.Wk Go.Pc
end Go.Pl

namespace Go.Pl
open Go Go.Ab Go.Wk Go.Pc
end Go.Pl

namespace Go.Pl
open Go Go.Ab Go.Wk Go.Pc
end Go.Pl

namespace Go.Pl
open Go Go.Ab Go.Wk Go.Pc
end Go.Pl

namespace Go.Pl
open Go Go.Ab Go.Wk Go.Pc
end Go.Pl

namespace Go.Pl
open Go Go.Ab Go.Wk Go.Pc
theorem zGC{x:SPr}{m:zD}{vals:Mx}(hx:zA2 x)(hm:zEs m)(eJ:S2 vals):
  (zOu x m vals=aN 0∧zOx x m vals=aN 0∧ ∃D,kQ x∧MOk x.zA.length m D∧zMQ x m D∧VOk x.zA.length m.Prime D vals∧zRq x m D vals)∨
  ∃k,k≠0∧zOu x m vals=aN k∧zOx x m vals=aN k:=by
 have hl:x.zA.length≤1048576:=hx.1;have bK:=S3.len hm;have fF:=S2.len eJ;unfold zOu zOx;rcases(zEU (m:=m) hl).both (zEV (m:=m) hl bK)with⟨s1,i1,hM⟩|⟨s1,i1,hM⟩
 ·obtain⟨hc,D,hD,hR⟩:=hM
  have d3:=hD.d3;simp only[s1,i1,bs,Jm,zI];rcases(zIa (x:=x) hD.p hD.d (by omega) fF).both (zHZ (x:=x) hD.p hD.d (by omega) fF)with⟨v1,w1,hV⟩|⟨v1,w1,hV⟩
  ·simp only[v1,w1,bs,Jm,zI]
   rcases(zMU hc.1 hD hV).both (zIT hc.1 hD hV)with⟨t1,u1,hRD⟩|⟨t1,u1,hRD⟩
   all_goals
    rw[sX hc.1 hD hV,bs]at u1;cases bQ:f_y ((wE x).map (dfc m D vals))with
    |none=>grind
    |some fl=>?_
    rw[bQ,bs]at u1
   ·simp only[t1,sX hc.1 hD hV,bQ,bs,u1,Jm,zI]
    exact .inl ⟨trivial,trivial,D,hc,hD,hR,hV,hRD⟩
   ·simp only[t1,sX hc.1 hD hV,bQ,bs,u1,Ka,zH]
    simp
  simp_all
 simp_all
end Go.Pl

namespace Go.Pl
open Go Go.Ab Go.Wk Go.Pc
end Go.Pl

namespace Go.Pl
open Go Go.Ab Go.Wk Go.Pc
end Go.Pl

namespace Go.Pl
open Go Go.Ab Go.Wk Go.Pc
end Go.Pl

namespace Go.Pl
open Go Go.Ab Go.Wk Go.Pc
end Go.Pl

namespace Go.Pl
open Go Go.Ab Go.Wk Go.Pc
end Go.Pl

namespace Go.Pl
open Go Go.Ab Go.Wk Go.Pc
end Go.Pl

namespace Go.Pl
open Go Go.Ab Go.Wk Go.Pc
end Go.Pl

namespace Go.Pl
open Go Go.Ab Go.Wk Go.Pc
end Go.Pl

namespace Go.Pl
open Go Go.Ab Go.Wk Go.Pc
end Go.Pl

namespace Go.Pl
open Go Go.Ab Go.Wk Go.Pc
end Go.Pl

namespace Go.Pl
open Go Go.Ab Go.Wk Go.Pc
end Go.Pl

namespace Go.Pl
open Go Go.Ab Go.Wk Go.Pc
end Go.Pl

namespace Go.Pl
open Go Go.Ab Go.Wk Go.Pc
end Go.Pl

namespace Go.Pl
open Go Go.Ab Go.Wk Go.Pc
end Go.Pl

namespace Go.Pl
open Go Go.Ab Go.Wk Go.Pc
end Go.Pl

namespace Go.Pl
open Go Go.Ab Go.Wk Go.Pc
end Go.Pl

namespace Go.Pl
open Go Go.Ab Go.Wk Go.Pc
end Go.Pl

namespace Go.Pl
open Go Go.Ab Go.Wk Go.Pc
end Go.Pl

namespace Go.Pl
open Go Go.Ab Go.Wk Go.Pc
end Go.Pl

namespace Go.Pl
open Go Go.Ab Go.Wk Go.Pc
end Go.Pl

namespace Go.Pl
open Go Go.Ab Go.Wk Go.Pc
end Go.Pl

namespace Go.Pl
open Go Go.Ab Go.Wk Go.Pc
end Go.Pl

namespace Go.Pl
open Go Go.Ab Go.Wk Go.Pc
end Go.Pl

namespace Go.Pl
open Go Go.Ab Go.Wk Go.Pc
end Go.Pl

namespace Go.Pl
open Go Go.Ab Go.Wk Go.Pc
end Go.Pl

namespace Go.Pl
open Go Go.Ab Go.Wk Go.Pc
end Go.Pl

namespace Go.Pl
open Go Go.Ab Go.Wk Go.Pc
end Go.Pl

namespace Go.Pl
open Go Go.Ab Go.Wk Go.Pc
end Go.Pl

namespace Go.Pl
open Go Go.Ab Go.Wk Go.Pc
end Go.Pl

namespace Go.Pl
open Go Go.Ab Go.Wk Go.Pc
end Go.Pl

namespace Go.Pl
open Go Go.Ab Go.Wk Go.Pc
end Go.Pl

namespace Go.Pl
open Go Go.Ab Go.Wk Go.Pc
end Go.Pl

namespace Go.Pl
open Go Go.Ab Go.Wk Go.Pc
end Go.Pl

namespace Go.Pl
open Go Go.Ab Go.Wk Go.Pc
end Go.Pl

namespace Go.Pl
open Go Go.Ab Go.Wk Go.Pc
end Go.Pl

namespace Go.Pl
open Go Go.Ab Go.Wk Go.Pc
end Go.Pl

namespace Go.Pl
open Go Go.Ab Go.Wk Go.Pc
end Go.Pl

namespace Go.Pl
open Go Go.Ab Go.Wk Go.Pc
end Go.Pl

namespace Go.Pl
open Go Go.Ab Go.Wk Go.Pc
end Go.Pl

namespace Go.Pl
open Go Go.Ab Go.Wk Go.Pc
end Go.Pl

namespace Go.Pl
open Go Go.Ab Go.Wk Go.Pc
end Go.Pl

namespace Go.Pl
open Go Go.Ab Go.Wk Go.Pc
end Go.Pl

namespace Go.Pl
open Go Go.Ab Go.Wk Go.Pc
end Go.Pl

namespace Go.Pl
open Go Go.Ab Go.Wk Go.Pc
end Go.Pl

namespace Go.Pl
open Go Go.Ab Go.Wk Go.Pc
end Go.Pl

namespace Go.Pl
open Go Go.Ab Go.Wk Go.Pc
end Go.Pl

namespace Go.Pl
open Go Go.Ab Go.Wk Go.Pc
end Go.Pl

namespace Go.Pl
open Go Go.Ab Go.Wk Go.Pc
end Go.Pl
