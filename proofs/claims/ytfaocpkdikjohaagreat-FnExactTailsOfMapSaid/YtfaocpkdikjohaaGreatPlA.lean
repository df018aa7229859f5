/- The program's TailsOfMap returns what the reference's returns,for all arguments;no conditions. -/
import Derived.Test.YtfaocpkdikjohaaGreatAbB
import Derived.Test.YtfaocpkdikjohaaGreatWF
open List renaming replicate→J1,getD_eq_getElem?_getD→J2,getElem?_eq_getElem→J3,length_append→J5,length_cons→J6,getElem?_append_right→J8,append_nil→J9,append_assoc→Ja,getElem?_eq_some_iff→Jb,mem_cons→Jc,length_map→Jd,length_replicate→Jh,nil_append→Ji,mem_append→Jj,range→Jl,getElem?_append_left→Jm,cons_append→Jp,replicate_succ→Jq,take_of_length_le→Jr,mem_map→Js,eq_of_mem_replicate→Jt,length_nil→Ju,map_cons→Jv,replicate_append_replicate→Jw,length_drop→Jz,getElem?_eq_none→K0,getElem?_map→K1,length_take→K3,take_succ_eq_append_getElem→K4,take_zero→K7,take_succ_cons→Kb,eq_nil_of_length_eq_zero→Kd,getElem_mem→Kf,getElem?_drop→Ko,set_cons_zero→Ku,mem_range→Kv,getElem?_replicate→Kw,map_append→Kx,length_range→Ky,getElem?_append→L5,range'→Lb,ext_getElem?→Ld,flatMap_cons→Ln,take_length→Lo,range_succ→Lr,range_eq_range'→Ls,getD_cons_zero→Lv,singleton_append→Lw,map_nil→Ly,flatMap_append→Lz,getElem?_take→H5,replicate_succ'→H6,drop_replicate→H8,drop_eq_getElem_cons→Hc,replicate_zero→Hh,set_append_right→Hl,flatten_nil→G4,mem_iff_getElem→Ga,drop_zero→Gb,mem_flatMap→Gp,mem_of_mem_take→U5,getD_cons_succ→Ug,foldl_append→Uj,getElem?_cons_succ→Uy,range_zero→Q9,suffix_cons→Qm,map_congr_left→Qp,flatten_append→Qr,cons→Qs,getElem?_cons_zero→Ja7,getElem?_set_ne→Jak,foldl_nil→Jal,flatMap_nil→Jam,suffix_cons_iff→Jay,range_succ_eq_map→Jb6,not_mem_nil→Jb7,drop_of_length_le→Jba,take_append_drop→Jbi,map_map→Jbs,length→Jbt,drop_length→Jbv,drop_append→Jbw,all_cons→Jbx,suffix_nil→Jc0,findSome?_cons→Jc2,getElem?_set→Jc7,range'_succ→Jdc,getElem_map→Jdd
open Bool renaming and_eq_true→J4,not_true→Ka,not_false→Kg,false_and→Jcu
open Int renaming toNat_natCast→Je,mul_emod→Jx,emod_emod→Kc,add_emod→Ke,emod_eq_of_lt→Kj,emod_lt_of_pos→Kr,tmod_eq_emod_of_nonneg→L4,emod_nonneg→L7,mul_zero→Le,zero_add→Lp,mul_le_mul→Lu,add_mul_emod_self_left→H1,add_zero→Hd,mul_assoc→Hi,mul_one→Hq,toNat_zero→Hv,mul_nonneg→U3,zero_mul→Ue,mul_comm→Uf,add_emod_right→Us,add_mul→Qj,sub_mul→Ja9,one_mul→Jaa,mul_le_mul_of_nonneg_left→Jab,mul_add→Jac,tmod_add_mul_tdiv→Jb1,tmod_lt_of_pos→Jbk,lt_tmod_of_pos→Jbl,tmod→Jc8,add_assoc→Jc9,sub_zero→Jcs,toNat_of_nonneg→Jde
open Nat renaming zero_add→Jg,lt_or_ge→Jk,le_refl→Jo,zero_le→Kn,sub_self→Kq,le_trans→L9,add_assoc→Lt,div_add_mod→Ha,add_zero→Hy,lt_trichotomy→Ge,min_eq_left→Gl,sub_zero→Ud,add_mul→Up,mul_one→Qt,mul_add→Jb3,lt_irrefl→Jc5,zero_sub→Jcp,le_of_lt→Jcq,add_comm→Jcr
open Option renaming some→L8,map_eq_some_iff→Lf,map_some→Hk
open Option renaming some→ja,none→jb
open Bool renaming true→jc,false→jd
namespace Go.Pc
abbrev Vec:=List Int
structure Lvl where
 o:Int
 w:Vec
 cs:List Vec
abbrev Pcp:=List Lvl
def zeros(n:Nat):Vec:=J1 n 0
def iter{α:Type}:Nat→(α→α)→α→α
 |0,_,x=>x
 |n+1,f,x=>iter n f (f x)
theorem wX{α:Type}(f:α→α):∀(n:Nat)(x:α),iter (n+1) f x=f (iter n f x)
 |0,_=>rfl
 |n+1,x=>by rw[iter,wX f n (f x)];rfl
theorem zEE{α:Type}(f:α→α)(a:Nat):∀(b:Nat)(x:α),iter (a+b) f x=iter a f (iter b f x)
 |0,_=>rfl
 |b+1,x=>by show iter (a+b) f (f x)=_;rw[zEE f a b (f x)];rfl
def img{α:Type}(m:α→α→α):List α→Vec→α→α
 |c::cs,x::xs,acc=>img m cs xs (iter x.toNat (fun v=>m v c) acc)
 |_,_,acc=>acc
def V:Pcp→Vec→Prop
 | [],v=>v=[]
 |l::P,v=>match v with
  | []=>False
  |a::x=>(0≤a∧a<l.o)∧V P x
def mul:Pcp→Vec→Vec→Vec
 |l::P,a::x,b::y=>
  let r:=mul P (iter b.toNat (fun v=>img (mul P) l.cs v (zeros P.length)) x) y
  if a+b≥l.o then(a+b-l.o)::mul P l.w r else(a+b)::r
 |_,_,_=>[]
def Ok:Pcp→Prop
 | []=>True
 |l::P=>1<l.o∧V P l.w∧l.cs.length=P.length∧(∀c∈l.cs,V P c)∧Ok P
structure Mon {α:Type} (S:α→Prop) (m:α→α→α) (e:α):Prop where
 cl:∀{a b},S a→S b→S (m a b)
 ein:S e
 assoc:∀{a b c},S a→S b→S c→m (m a b) c=m a (m b c)
 onel:∀{a},S a→m e a=a
 oner:∀{a},S a→m a e=a
structure Grp {α:Type} (S:α→Prop) (m:α→α→α) (e:α):Prop extends Mon S m e where
 inv:∀{a},S a→ ∃b,S b∧m a b=e
theorem Grp.invl{α:Type}{S:α→Prop}{m:α→α→α}{e:α}(h:Grp S m e){a:α}(ha:S a):∃b,S b∧m a b=e∧m b a=e:=by
 obtain⟨b,hb,h1⟩:=h.inv ha;obtain⟨c,hc,h2⟩:=h.inv hb;refine⟨b,hb,h1,?_⟩;have:a=c:=by rw[←h.oner ha,←h2,←h.assoc ha hb hc,h1,h.onel hc]
 rw[this];exact h2
theorem Grp.cancel_l{α:Type}{S:α→Prop}{m:α→α→α}{e:α}(h:Grp S m e){a b c:α}(ha:S a)(hb:S b)(hc:S c)(hh:m a b=m a c):b=c:=by obtain⟨d,hd,_,h2⟩:=h.invl ha;rw[←h.onel hb,←h.onel hc,←h2,h.assoc hd ha hb,h.assoc hd ha hc,hh]
section
variable {α:Type}{S:α→Prop}{m:α→α→α}{e:α}
def pw(m:α→α→α)(e:α)(x:α)(k:Nat):α:=iter k (fun v=>m v x) e
theorem tN(h:Mon S m e){x:α}(hx:S x):∀k,S (pw m e x k)
 |0=>h.ein
 |k+1=>by rw[pw,wX];exact h.cl (tN h hx k) hx
theorem vO{f:α→α}(hf:∀a,S a→S (f a)):∀(k:Nat){x:α},S x→S (iter k f x)
 |0,_,hx=>hx
 |k+1,_,hx=>vO hf k (hf _ hx)
theorem zEF(h:Mon S m e){x a:α}(hx:S x)(ha:S a):∀k,iter k (fun v=>m v x) a=m a (pw m e x k)
 |0=>(h.oner ha).symm
 |k+1=>by rw[wX,zEF h hx ha k];show _=m a (iter (k+1) (fun v=>m v x) e);rw[wX];exact h.assoc ha (tN h hx k) hx
theorem zH7(h:Mon S m e){x:α}(hx:S x)(a b:Nat):pw m e x (a+b)=m (pw m e x a) (pw m e x b):=by rw[Jcr,pw,zEE,←zEF h hx (tN h hx a) b];rfl
theorem zSf(h:Mon S m e){x:α}(hx:S x):pw m e x 1=x:=h.onel hx
theorem zSg(h:Mon S m e){x:α}(hx:S x)(k:Nat):pw m e x (k+1)=m x (pw m e x k):=by rw[Jcr,zH7 h hx 1 k,zSf h hx]
theorem jD(h:∀{a b},S a→S b→S (m a b)):∀(cs:List α)(x:Vec){a:α},(∀c∈cs,S c)→S a→S (img m cs x a)
 |c::cs,x::xs,_,hc,ha=>by simp only[img];exact jD h cs xs (fun c h=>hc c (by simp[h])) (vO (fun a ha=>h ha (hc c (by simp))) _ ha)
 | [],_,_,_,ha=>by simpa[img]using ha
 |_::_,[],_,_,ha=>by simpa[img]using ha
theorem zF6(h:Mon S m e)(cs:List α)(x:Vec){a:α}(hc:∀c∈cs,S c)(ha:S a):S (img m cs x a):=jD h.cl cs x hc ha
theorem zEG(h:Mon S m e):∀(cs:List α)(x:Vec){a:α},(∀c∈cs,S c)→S a→img m cs x a=m a (img m cs x e)
 |c::cs,x::xs,a,hc,ha=>by
  have h1:S c:=hc c (by simp);have h2:∀c∈cs,S c:=fun c h=>hc c (by simp[h])
  simp only[img];rw[zEF h h1 ha,zEG h cs xs h2 (h.cl ha (tN h h1 _)),zEF h h1 h.ein,zEG h cs xs h2 (h.cl h.ein (tN h h1 _)),h.onel (tN h h1 _),
   h.assoc ha (tN h h1 _) (zF6 h cs xs h2 h.ein)]
 | [],_,a,_,ha=>by simp[img,h.oner ha]
 |_::_,[],a,_,ha=>by simp[img,h.oner ha]
theorem qN(h:Mon S m e){c:α}{cs:List α}{x:Int}{xs:Vec}(hc:S c)(gN:∀c∈cs,S c):img m (c::cs) (x::xs) e=m (pw m e c x.toNat) (img m cs xs e):=by simp only[img];rw[zEG h cs xs gN (vO (fun a ha=>h.cl ha hc) _ h.ein)];rfl
theorem sW(m:α→α→α):∀(cs:List α)(n:Nat)(a:α),img m cs (zeros n) a=a
 | [],_,_=>by simp[img]
 |_::_,0,_=>by simp[zeros,img]
 |c::cs,n+1,a=>by simp only[zeros,Jq,img,Hv,iter];exact sW m cs n a
theorem zH8(h:Mon S m e){g:α}(hg:S g):∀(cs ds:List α)(x:Vec),(∀c∈cs,S c)→(∀c∈ds,S c)→cs.length=ds.length→(∀(k:Nat) c d,cs[k]? =ja c→ds[k]? =ja d→m c g=m g d)→m (img m cs x e) g=m g (img m ds x e)
 | [],[],x,_,_,_,_=>by simp[img,h.onel hg,h.oner hg]
 |c::cs,d::ds,[],_,_,_,_=>by simp[img,h.onel hg,h.oner hg]
 |c::cs,d::ds,x::xs,hc,hd,hl,hp=>by
  have hJ:S c:=hc c (by simp);have hd0:S d:=hd d (by simp);have gN:∀c∈cs,S c:=fun c h=>hc c (by simp[h])
  have md:∀c∈ds,S c:=fun c h=>hd c (by simp[h])
  have key:∀k,m (pw m e c k) g=m g (pw m e d k):=by
   intro k
   induction k with
   |zero=>simp[pw,iter,h.onel hg,h.oner hg]
   |succ k ih=>
    have h0:m c g=m g d:=hp 0 c d rfl rfl;rw[pw,wX,pw,wX];show m (m (pw m e c k) c) g=m g (m (pw m e d k) d);rw[h.assoc (tN h hJ k) hJ hg,h0,←h.assoc (tN h hJ k) hg hd0,ih,h.assoc hg (tN h hd0 k) hd0]
  rw[qN h hJ gN,qN h hd0 md,h.assoc (tN h hJ _) (zF6 h _ _ gN h.ein) hg,zH8 h hg cs ds xs gN md (by simpa using hl) (fun k c d h1 h2=>hp (k+1) c d (by simpa using h1) (by simpa using h2)),
   ←h.assoc (tN h hJ _) hg (zF6 h _ _ md h.ein),key,h.assoc hg (tN h hd0 _) (zF6 h _ _ md h.ein)]
theorem zOT{β:Type}{T:β→Prop}{n:β→β→β}{f:β}(h:Mon S m e)(h':Mon T n f)(φ:α→β)(gJ:∀a,S a→T (φ a))(h1:φ e=f)(hm:∀a b,S a→S b→φ (m a b)=n (φ a) (φ b)):∀(cs:List α)(x:Vec),(∀c∈cs,S c)→φ (img m cs x e)=img n (cs.map φ) x f
 | [],_,_=>by simp[img,h1]
 |c::cs,[],_=>by simp[img,h1]
 |c::cs,x::xs,hc=>by
  have hJ:S c:=hc c (by simp);have gN:∀c∈cs,S c:=fun c h=>hc c (by simp[h])
  have key:∀k,φ (pw m e c k)=pw n f (φ c) k:=by
   intro k
   induction k with
   |zero=>simp[pw,iter,h1]
   |succ k ih=>
    rw[pw,wX,pw,wX];show φ (m (pw m e c k) c)=n (pw n f (φ c) k) (φ c);rw[hm _ _ (tN h hJ k) hJ,ih]
  rw[qN h hJ gN,Jv,qN h' (gJ c hJ) (by simp only[Js];rintro _ ⟨c,pW,rfl⟩;exact gJ c (gN c pW)),hm _ _ (tN h hJ _) (zF6 h _ _ gN h.ein),key,zOT h h' φ gJ h1 hm cs xs gN]
end
theorem wP:∀{P:Pcp},Ok P→V P (zeros P.length)
 | [],_=>rfl
 |l::P,h=>by simp only[Ok]at h;simp only[J6,zeros,Jq,V];exact⟨by omega,wP h.2.2.2.2⟩
theorem xH:∀{P:Pcp},Ok P→ ∀{x y:Vec},V P x→V P y→V P (mul P x y)
 | [],_,_,_,hx,hy=>by simp[mul,V]
 |l::P,h,[],_,hx,_=>by simp[V]at hx
 |l::P,h,_::_,[],_,hy=>by simp[V]at hy
 |l::P,h,a::x,b::y,hx,hy=>by
  simp only[Ok]at h;simp only[V]at hx hy;have h1:∀v,V P v→V P (img (mul P) l.cs v (zeros P.length)):=fun v hv=>jD (xH h.2.2.2.2) l.cs v h.2.2.2.1 (wP h.2.2.2.2)
  have h2:=xH h.2.2.2.2 (vO h1 b.toNat hx.2) hy.2;simp only[mul];split
  ·exact⟨by omega,xH h.2.2.2.2 h.2.1 h2⟩
  ·exact⟨by omega,h2⟩
def Rel{α:Type}(m:α→α→α)(e:α):Pcp→List α→Prop
 | [],s=>s=[]
 |l::P,s=>match s with
  | []=>False
  |g::s=>pw m e g l.o.toNat=img m s l.w e∧(∀(k:Nat) c d,s[k]? =ja c→l.cs[k]? =ja d→m c g=m g (img m s d e))∧Rel m e P s
section
variable {α:Type}{S:α→Prop}{m:α→α→α}{e:α}
theorem yAd(h:Mon S m e):∀(P:Pcp)(s:List α),Ok P→(∀g∈s,S g)→Rel m e P s→ ∀x y,V P x→V P y→img m s (mul P x y) e=m (img m s x e) (img m s y e)
 | [],s,_,_,hr,x,y,hx,hy=>by simp only[Rel]at hr;subst hr;simp[img,h.onel h.ein]
 |l::P,[],_,_,hr,_,_,_,_=>by simp[Rel]at hr
 |l::P,g::s,_,_,_,[],_,hx,_=>by simp[V]at hx
 |l::P,g::s,_,_,_,_::_,[],_,hy=>by simp[V]at hy
 |l::P,g::s,hk,hs,hr,a::x,b::y,hx,hy=>by
  simp only[Ok]at hk;simp only[Rel]at hr;simp only[V]at hx hy;obtain⟨ho,hw,gG,gN,a7⟩:=hk;obtain⟨fm,cJ,pf⟩:=hr;have hg:S g:=hs g (by simp);have mF:∀c∈s,S c:=fun c hc=>hs c (by simp[hc])
  have gj:s.length=P.length:=by
   clear fm cJ hx hy hw gG gN hs mF
   induction P generalizing s with
   |nil=>simp only[Rel]at pf;simp[pf]
   |cons l P ih=>
    cases s with
    |nil=>simp[Rel]at pf
    |cons c s=>simp only[Rel]at pf;simp only[Ok]at a7;simp[ih s a7.2.2.2.2 pf.2.2]
  have ih:=yAd h P s a7 mF pf;have hφ:∀v,S (img m s v e):=fun v=>zF6 h s v mF h.ein
  have dO:∀{a b},V P a→V P b→V P (mul P a b):=xH a7;have ai:∀v,V P v→V P (img (mul P) l.cs v (zeros P.length)):=fun v hv=>jD dO l.cs v gN (wP a7)
  have hσ:∀v,V P v→m (img m s v e) g=m g (img m s (img (mul P) l.cs v (zeros P.length)) e):=by
   intro v hv;have key:∀(cs:List Vec)(v:Vec)(acc:Vec),(∀c∈cs,V P c)→V P acc→img m s (img (mul P) cs v acc) e=img m (cs.map fun c=>img m s c e) v (img m s acc e):=by
    intro cs
    induction cs with
    |nil=>intro v acc _ _;simp[img]
    |cons c cs ihc=>
     intro v acc hc eP;cases v with
     |nil=>simp[img]
     |cons z v=>
      have hJ:V P c:=hc c (by simp);have it:∀k acc,V P acc→img m s (iter k (fun v=>mul P v c) acc) e=iter k (fun v=>m v (img m s c e)) (img m s acc e):=by
       intro k
       induction k with
       |zero=>intro acc _;rfl
       |succ k ihk=>
        intro acc eP;simp only[iter];rw[ihk _ (dO eP hJ),ih _ _ eP hJ]
      simp only[img,Jv];rw[ihc v _ (fun c h=>hc c (by simp[h])) (vO (fun a ha=>dO ha hJ) _ eP),it _ _ eP]
   rw[key l.cs v (zeros P.length) gN (wP a7),sW];refine zH8 h hg s _ v mF (by simp only[Js];rintro _ ⟨c,_,rfl⟩;exact hφ c) (by simp[gj,gG]) ?_;intro k c d hc hd;simp only[K1,Lf]at hd;obtain⟨d',me,rfl⟩:=hd;exact cJ k c d' hc me
  have hσk:∀k v,V P v→m (img m s v e) (pw m e g k)=m (pw m e g k) (img m s (iter k (fun v=>img (mul P) l.cs v (zeros P.length)) v) e):=by
   intro k
   induction k with
   |zero=>intro v _;simp[pw,iter,h.onel (hφ v),h.oner (hφ v)]
   |succ k ihk=>
    intro v hv;rw[zSg h hg,←h.assoc (hφ v) hg (tN h hg k),hσ v hv,h.assoc hg (hφ _) (tN h hg k),ihk _ (ai v hv),←h.assoc hg (tN h hg k) (hφ _)];rfl
  have fT:=tN h hg a.toNat;have tp:=tN h hg b.toNat;have e6:V P (iter b.toNat (fun v=>img (mul P) l.cs v (zeros P.length)) x):=vO ai _ hx.2;have aZ:m (img m (g::s) (a::x) e) (img m (g::s) (b::y) e)=m (pw m e g (a.toNat+b.toNat)) (img m s (mul P (iter b.toNat (fun v=>img (mul P) l.cs v (zeros P.length)) x) y) e):=by rw[qN h hg mF,qN h hg mF,h.assoc fT (hφ x) (h.cl tp (hφ y)),←h.assoc (hφ x) tp (hφ y),hσk _ _ hx.2,h.assoc tp (hφ _) (hφ y),←ih _ _ e6 hy.2,←h.assoc fT tp (hφ _),zH7 h hg]
  rw[aZ];simp only[mul];split
  ·rename_i hge
   rw[qN h hg mF,ih _ _ hw (dO e6 hy.2),←fm,←h.assoc (tN h hg _) (tN h hg _) (hφ _),←zH7 h hg]
   congr 2
   omega
  ·rw[qN h hg mF]
   congr 2
   omega
end
def xN(n j:Nat):Vec:=(zeros n).set j 1
def sig(P:Pcp)(l:Lvl)(v:Vec):Vec:=img (mul P) l.cs v (zeros P.length)
def wR:Pcp→Prop
 | []=>True
 |l::P=>wR P∧Rel (mul P) (zeros P.length) P l.cs∧sig P l l.w=l.w∧ ∀j,j<P.length→mul P l.w (iter l.o.toNat (sig P l) (xN P.length j))=mul P (xN P.length j) l.w
theorem zDg(n:Nat):xN (n+1) 0=1::zeros n:=rfl
theorem zF7(n j:Nat):xN (n+1) (j+1)=0::xN n j:=rfl
def wL(n:Nat):List Vec:=(Jl n).map (xN n)
theorem zNk(n:Nat):wL (n+1)=(1::zeros n)::(wL n).map (0::·):=by
 simp only[wL,Jb6,Jv,Jbs,zDg]
 congr 1
theorem zC8:∀{P:Pcp},Ok P→ ∀{j:Nat},j<P.length→V P (xN P.length j)
 | [],_,_,hj=>by simp at hj
 |l::P,h,0,_=>by simp only[Ok]at h;rw[J6,zDg];simp only[V];exact⟨by omega,wP h.2.2.2.2⟩
 |l::P,h,j+1,hj=>by simp only[Ok]at h;rw[J6,zF7];simp only[V];exact⟨by omega,zC8 h.2.2.2.2 (by simpa using hj)⟩
theorem zC9{l:Lvl}{P:Pcp}(h:Ok (l::P)){v:Vec}(_hv:V P v):V P (sig P l v):=by simp only[Ok]at h;exact jD (xH h.2.2.2.2) l.cs v h.2.2.2.1 (wP h.2.2.2.2)
theorem yZ(l:Lvl)(P:Pcp)(a b:Int)(x y:Vec):mul (l::P) (a::x) (b::y)=if a+b≥l.o then(a+b-l.o)::mul P l.w (mul P (iter b.toNat (sig P l) x) y)else(a+b)::mul P (iter b.toNat (sig P l) x) y:=rfl
theorem zQa{n k:Nat}{c:Vec}(h:(wL n)[k]? =ja c):k<n∧c=xN n k:=by simp only[wL,K1,Lf]at h;obtain⟨j,hj,rfl⟩:=h;obtain⟨hk,rfl⟩:=Jb.1 hj;simp at hk;exact⟨hk,by simp⟩
theorem normal:∀(P:Pcp),Ok P→(∀Q,Q<:+P→Mon (V Q) (mul Q) (zeros Q.length))→ ∀x,V P x→img (mul P) (wL P.length) x (zeros P.length)=x
 | [],_,_,x,hx=>by simp only[V]at hx;subst hx;simp[wL,img,zeros]
 |l::P,_,_,[],hx=>by simp[V]at hx
 |l::P,h,hM,a::x,hx=>by
  have hMl:=hM (l::P) (List.suffix_refl _);have hMP:=hM P (Qm _ _);have h':=h;simp only[Ok]at h;simp only[V]at hx;rw[J6,zNk];have hz:V P (zeros P.length):=wP h.2.2.2.2;have dF:V (l::P) (1::zeros P.length):=by simp only[V];exact⟨by omega,hz⟩
  have ff:∀c∈(wL P.length).map (0::·),V (l::P) c:=by intro c hc;simp only[wL,Jbs,Js,Kv]at hc;obtain⟨j,hj,rfl⟩:=hc;simp only[Function.comp,V];exact⟨by omega,zC8 h.2.2.2.2 hj⟩
  have m7:V (l::P) (zeros (P.length+1)):=wP (P:=l::P) h';rw[show zeros (P.length+1)=zeros (l::P).length from rfl];rw[qN hMl dF ff];have sz:∀k:Nat,iter k (sig P l) (zeros P.length)=zeros P.length:=by
   intro k
   induction k with
   |zero=>rfl
   |succ k ih=>simp only[iter];rw[show sig P l (zeros P.length)=zeros P.length from sW _ _ _ _];exact ih
  have h1:∀k:Nat,(k:Int)<l.o→pw (mul (l::P)) (zeros (l::P).length) (1::zeros P.length) k=(k:Int)::zeros P.length:=by
   intro k
   induction k with
   |zero=>intro _;rfl
   |succ k ih=>
    intro hk;rw[pw,wX];show mul (l::P) (pw (mul (l::P)) (zeros (l::P).length) (1::zeros P.length) k) (1::zeros P.length)=_;rw[ih (by omega),yZ,if_neg (by omega)];rw[sz,hMP.onel hz];rfl
  have h2:∀(cs:List Vec)(y acc:Vec),(∀c∈cs,V P c)→V P acc→img (mul (l::P)) (cs.map (0::·)) y (0::acc)=0::img (mul P) cs y acc:=by
   intro cs
   induction cs with
   |nil=>intro y acc _ _;simp[img]
   |cons c cs ih=>
    intro y acc hc eP;cases y with
    |nil=>simp[img]
    |cons z y=>
     have hJ:V P c:=hc c (by simp);have it:∀(k:Nat)(acc:Vec),V P acc→iter k (fun v=>mul (l::P) v (0::c)) (0::acc)=0::iter k (fun v=>mul P v c) acc:=by
      intro k
      induction k with
      |zero=>intro _ _;rfl
      |succ k ihk=>
       intro acc eP;simp only[iter];rw[yZ,if_neg (by omega)];exact ihk _ (xH h.2.2.2.2 eP hJ)
     simp only[Jv,img];rw[it _ _ eP,ih _ _ (fun c h=>hc c (by simp[h])) (vO (fun a ha=>xH h.2.2.2.2 ha hJ) _ eP)]
  have m8:∀c∈wL P.length,V P c:=by intro c hc;simp only[wL,Js,Kv]at hc;obtain⟨j,hj,rfl⟩:=hc;exact zC8 h.2.2.2.2 hj
  rw[h1 a.toNat (by omega),show zeros (l::P).length=0::zeros P.length from rfl,h2 _ _ _ m8 hz,normal P h.2.2.2.2 (fun Q hQ=>hM Q (hQ.trans (Qm _ _))) x hx.2,yZ,if_neg (by omega)];simp only[Hv,iter];rw[hMP.onel hx.2]
  congr 1
  omega
theorem zCA:∀(P:Pcp),Ok P→wR P→Grp (V P) (mul P) (zeros P.length)
 | [],_,_=>by
  refine⟨⟨fun _ _=>rfl,rfl,fun _ _ _=>rfl,?_,?_⟩,fun ha=>⟨[],rfl,rfl⟩⟩<;>
  ·intro a ha
   simp only[V]at ha;subst ha;rfl
 |l::P,h,hc=>by
  have h':=h;simp only[Ok]at h;simp only[wR]at hc;obtain⟨ho,hw,gG,gN,hP⟩:=h;obtain⟨dq,bh,bT,bN⟩:=hc;have N:=zCA P hP dq;have hM:∀Q,Q<:+P→Mon (V Q) (mul Q) (zeros Q.length):=by
   intro Q hQ;obtain⟨t,ht⟩:=hQ;have:Ok Q∧wR Q:=by
    clear N hw gG gN bh bT bN h'
    induction t generalizing P with
    |nil=>simp at ht;subst ht;exact⟨hP,dq⟩
    |cons a t ih=>
     simp at ht;subst ht;simp only[Ok]at hP;simp only[wR]at dq;exact ih (t++Q) hP.2.2.2.2 dq.1 rfl
   have gz:SizeOf.sizeOf Q≤SizeOf.sizeOf P:=by
    rw[←ht]
    clear N hw gG gN bh bT bN h' hP dq ht this
    induction t with
    |nil=>simp
    |cons a t ih=>simp only[Jp,Qs.sizeOf_spec];omega
   exact(zCA Q this.1 this.2).toMon
  have hz:V P (zeros P.length):=wP hP;have σin:∀v,V P v→V P (sig P l v):=fun _ hv=>zC9 h' hv
  have σhom:∀x y,V P x→V P y→sig P l (mul P x y)=mul P (sig P l x) (sig P l y):=fun x y hx hy=>yAd N.toMon P l.cs hP gN bh x y hx hy
  have σz:sig P l (zeros P.length)=zeros P.length:=sW _ _ _ _;have itin:∀(k:Nat) v,V P v→V P (iter k (sig P l) v):=fun k v hv=>vO σin k hv
  have ithom:∀(k:Nat) x y,V P x→V P y→iter k (sig P l) (mul P x y)=mul P (iter k (sig P l) x) (iter k (sig P l) y):=by
   intro k
   induction k with
   |zero=>intro _ _ _ _;rfl
   |succ k ih=>intro x y hx hy;simp only[iter];rw[σhom x y hx hy,ih _ _ (σin x hx) (σin y hy)]
  have itz:∀k:Nat,iter k (sig P l) (zeros P.length)=zeros P.length:=by
   intro k
   induction k with
   |zero=>rfl
   |succ k ih=>simp only[iter];rw[σz];exact ih
  have itw:∀k:Nat,iter k (sig P l) l.w=l.w:=by
   intro k
   induction k with
   |zero=>rfl
   |succ k ih=>simp only[iter];rw[bT];exact ih
  have m8:∀c∈wL P.length,V P c:=by intro c hc;simp only[wL,Js,Kv]at hc;obtain⟨j,hj,rfl⟩:=hc;exact zC8 hP hj
  have inner:∀x,V P x→mul P x l.w=mul P l.w (iter l.o.toNat (sig P l) x):=by intro x hx;have hnf:=normal P hP hM x hx;have bI:=zOT N.toMon N.toMon (iter l.o.toNat (sig P l)) (fun a ha=>itin _ a ha) (itz _) (fun a b ha hb=>ithom _ a b ha hb) (wL P.length) x m8;rw[←hnf,bI];refine zH8 N.toMon hw _ _ x m8 (by simp only[Js];rintro _ ⟨c,hc,rfl⟩;exact itin _ c (m8 c hc)) (by simp) ?_;intro k c d hc hd;rw[K1,Lf]at hd;obtain⟨c',pW,rfl⟩:=hd;rw[hc]at pW;simp at pW;subst pW;obtain⟨hk,rfl⟩:=zQa hc;exact(bN k hk).symm
  have e:∀(x y z:Vec)(b c:Int),V P x→V P y→V P z→0≤b→0≤c→
    mul P (iter c.toNat (sig P l) (mul P (iter b.toNat (sig P l) x) y)) z=mul P (iter (b+c).toNat (sig P l) x) (mul P (iter c.toNat (sig P l) y) z)∧
    mul P (iter c.toNat (sig P l) (mul P l.w (mul P (iter b.toNat (sig P l) x) y))) z=mul P l.w (mul P (iter (b+c).toNat (sig P l) x) (mul P (iter c.toNat (sig P l) y) z))∧
    (l.o≤b+c→mul P (iter (b+c-l.o).toNat (sig P l) x) (mul P l.w (mul P (iter c.toNat (sig P l) y) z))=mul P l.w (mul P (iter (b+c).toNat (sig P l) x) (mul P (iter c.toNat (sig P l) y) z))):=by
   intro x y z b c hx hy hz hb hcc;have iU:=itin b.toNat x hx;have hcy:=itin c.toNat y hy;have hbc:iter c.toNat (sig P l) (iter b.toNat (sig P l) x)=iter (b+c).toNat (sig P l) x:=by rw[←zEE];congr 1;omega
   have iW:=itin (b+c).toNat x hx;have e1:mul P (iter c.toNat (sig P l) (mul P (iter b.toNat (sig P l) x) y)) z=mul P (iter (b+c).toNat (sig P l) x) (mul P (iter c.toNat (sig P l) y) z):=by rw[ithom _ _ _ iU hy,hbc,N.assoc iW hcy hz]
   refine⟨e1,?_,?_⟩
   ·rw[ithom _ _ _ hw (N.cl iU hy),itw,N.assoc hw (itin _ _ (N.cl iU hy)) hz,e1]
   ·intro hge
    have dh:=N.cl hcy hz;rw[←N.assoc (itin _ x hx) hw dh,inner _ (itin _ x hx),←zEE,N.assoc hw (itin _ x hx) dh]
    congr 3
    omega
  refine⟨⟨fun ha hb=>xH h' ha hb,wP h',?_,?_,?_⟩,?_⟩
  ·intro A B C hA hB hC
   match A,B,C,hA,hB,hC with
   |a::x,b::y,c::z,hA,hB,hC=>
    simp only[V]at hA hB hC;obtain⟨e1,e2,e3⟩:=e x y z b c hA.2 hB.2 hC.2 hB.1.1 hC.1.1
    by_cases c1:a+b≥l.o<;>by_cases c2:b+c≥l.o
    ·rw[yZ,if_pos c1,yZ l P b c,if_pos c2,yZ,yZ,e2,e3 c2]
     by_cases c3:a+b-l.o+c≥l.o
     ·rw[if_pos c3,if_pos (by omega)];congr 1;omega
     ·rw[if_neg c3,if_neg (by omega)];congr 1;omega
    ·rw[yZ,if_pos c1,yZ l P b c,if_neg c2,yZ,yZ,e2,if_neg (by omega),if_pos (by omega)]
     congr 1;omega
    ·rw[yZ,if_neg c1,yZ l P b c,if_pos c2,yZ,yZ,e1,e3 c2,if_pos (by omega),if_neg (by omega)]
     congr 1;omega
    ·rw[yZ,if_neg c1,yZ l P b c,if_neg c2,yZ,yZ,e1]
     by_cases c3:a+b+c≥l.o
     ·rw[if_pos c3,if_pos (by omega)];congr 1;omega
     ·rw[if_neg c3,if_neg (by omega)];congr 1;omega
  ·intro A hA
   match A,hA with
   |a::x,hA=>
    simp only[V]at hA;show mul (l::P) (0::zeros P.length) (a::x)=_;rw[yZ,if_neg (by omega),itz,N.onel hA.2,Lp]
  ·intro A hA
   match A,hA with
   |a::x,hA=>
    simp only[V]at hA;show mul (l::P) (a::x) (0::zeros P.length)=_;rw[yZ,if_neg (by omega)];simp only[Hv,iter];rw[N.oner hA.2,Hd]
  ·intro A hA
   match A,hA with
   |a::x,hA=>
    simp only[V]at hA
    by_cases ha:a=0
    ·obtain⟨y,hy,h1⟩:=N.inv hA.2
     refine⟨0::y,by simp only[V];exact⟨by omega,hy⟩,?_⟩;rw[yZ,if_neg (by omega)];simp only[Hv,iter];rw[h1,ha];rfl
    ·have am:=itin (l.o-a).toNat x hA.2
     obtain⟨y,hy,h1⟩:=N.inv (N.cl hw am);refine⟨(l.o-a)::y,by simp only[V];exact⟨by omega,hy⟩,?_⟩;rw[yZ,if_pos (by omega),←N.assoc hw am hy,h1,show a+(l.o-a)-l.o=0 by omega];rfl
termination_by P=>P
end Go.Pc

namespace Go.Pl
open Go Go.Ab
theorem bs{α β:Type}(x:α)(f:α→Option β):(ja x).bind f=f x:=by simp only[Option.bind_some]
theorem zN{α:Type}(x y:α):cond jc x y=x:=by simp only[cond_true]
theorem zI{α:Type}(x y:α):cond jd x y=y:=by simp only[cond_false]
theorem zC{n:Int}(h1:-9223372036854775808≤n)(h2:n≤9223372036854775807):rng n=ja n:=by unfold rng;rw[if_pos];simp only[inR,J4,decide_eq_true_eq];omega
theorem uC{α:Type}(xs:List α)(i:Nat):ixO xs (i:Int)=xs[i]?:=by unfold ixO;rw[if_pos (by omega)];simp
theorem kE{α:Type}{xs:List α}{i:Nat}(h:i<xs.length):ixO xs (i:Int)=ja xs[i]:=by rw[uC];exact J3 h
theorem xM{n:Nat}(h:n≤68719476736):yY (n:Int)=ja n:=by unfold yY;rw[if_pos (by omega)];simp
theorem yN{α:Type}{xs ys:List α}(h:xs.length+ys.length≤68719476736):xK xs ys=ja (xs++ys):=by unfold xK;rw[if_pos h]
theorem zW{σ ρ:Type}{body:σ→Option (σ⊕ρ)}{r:ρ}(S:Nat→σ)(n:Nat)(h:∀i,i<n→body (S i)=ja (.inl (S (i+1))))(he:body (S n)=ja (.inr r)):zH body (S 0)=ja r:=by
 have key:∀k i,i+k=n→zH body (S i)=ja r:=by
  intro k
  induction k with
  |zero=>intro i hi;rw[wA,show i=n from by omega,he]
  |succ k ih=>intro i hi;rw[wA,h i (by omega)];exact ih (i+1) (by omega)
 exact key n 0 (by omega)
theorem tE{σ ρ:Type}{body:σ→Option (σ⊕ρ)}{Q:ρ→Prop}(I:Nat→σ→Prop)(n:Nat)(h:∀i s,i<n→I i s→(∃s',body s=ja (.inl s')∧I (i+1) s')∨ ∃r,body s=ja (.inr r)∧Q r)
  (he:∀s,I n s→ ∃r,body s=ja (.inr r)∧Q r){s:σ}(h0:I 0 s):∃r,zH body s=ja r∧Q r:=by
 have key:∀k i s,i+k=n→I i s→ ∃r,zH body s=ja r∧Q r:=by
  intro k
  induction k with
  |zero=>
   intro i s hi hs;obtain rfl:i=n:=by omega
   obtain⟨r,h1,h2⟩:=he s hs;exact⟨r,by rw[wA,h1],h2⟩
  |succ k ih=>
   intro i s hi hs;rcases h i s (by omega) hs with⟨s',h1,h2⟩|⟨r,h1,h2⟩
   ·rw[wA,h1];exact ih (i+1) s' (by omega) h2
   ·exact⟨r,by rw[wA,h1],h2⟩
 exact key n 0 s (by omega) h0
def zLx{ρ:Type}:Option ρ→Unit⊕ρ
 |none=>.inl ()
 |some r=>.inr r
theorem cs(i:Nat):(i:Int)+1=((i+1:Nat):Int):=by omega
theorem zJh{ρ:Type}{body:Int→Option (Int⊕(Unit⊕ρ))}(n:Nat)(t:Nat→Option ρ)(i0:Nat)(hn:i0≤n)
  (h:∀i,i0≤i→i<n→(∀j,i0≤j→j<i→t j=jb)→body (i:Int)=ja (match t i with|none=>.inl ((i+1:Nat):Int)|some r=>.inr (.inr r)))
  (he:(∀j,i0≤j→j<n→t j=jb)→body (n:Int)=ja (.inr (.inl ()))):
  zH body (i0:Int)=ja (zLx ((Lb i0 (n-i0)).findSome? t)):=by
 have key:∀k i,i0≤i→i+k=n→(∀j,i0≤j→j<i→t j=jb)→zH body (i:Int)=ja (zLx ((Lb i k).findSome? t)):=by
  intro k
  induction k with
  |zero=>
   intro i hi hk hp;obtain rfl:i=n:=by omega
   rw[wA,he hp];rfl
  |succ k ih=>
   intro i hi hk hp;rw[wA,h i hi (by omega) hp,Jdc,Jc2];cases ht:t i with
   |some r=>rfl
   |none=>
    simp only
    exact ih (i+1) (by omega) (by omega) fun j h1 h2=>by
     rcases Jk j i with h3|h3
     ·exact hp j h1 h3
     ·rw[show j=i from by omega];exact ht
 exact key (n-i0) i0 (Jo _) (by omega) fun j h1 h2=>by omega
theorem zSh{n:Nat}{b:Nat→Bool}:zLx ((Lb 0 n).findSome? (fun i=>if b i then jb else ja jd))=if(Jl n).all b then .inl ()else .inr jd:=by
 have key:∀l:List Nat,zLx (l.findSome? (fun i=>if b i then jb else ja jd))=if l.all b then .inl ()else .inr jd:=by
  intro l
  induction l with
  |nil=>rfl
  |cons x l ih=>
   rw[Jc2,Jbx];cases hb:b x
   ·rfl
   ·simpa using ih
 rw[key,Ls]
theorem zJi{body:Int→Option (Int⊕(Unit⊕Bool))}(n:Nat)(b:Nat→Bool)
  (h:∀i,i<n→(∀j,j<i→b j=jc)→body (i:Int)=ja (if b i then .inl ((i+1:Nat):Int)else .inr (.inr jd)))
  (he:(∀j,j<n→b j=jc)→body (n:Int)=ja (.inr (.inl ()))):
  zH body 0=ja (if(Jl n).all b then .inl ()else .inr jd):=by
 have:=zJh (body:=body) n (fun i=>if b i then jb else ja jd) 0 (Kn _) (fun i _ hi hp=>by
  rw[h i hi fun j hj=>by
   have:=hp j (Kn _) hj;split at this
   ·assumption
   ·cases this]
  cases b i<;>rfl) (fun hp=>he fun j hj=>by
   have:=hp j (Kn _) hj;split at this
   ·assumption
   ·cases this)
 rw[Ud]at this;exact this.trans (congrArg ja (zSh (n:=n) (b:=b)))
theorem zSi{α:Type}{xs:List α}{z:α}{i:Nat}(h:i<xs.length):(xs.take i++J1 (xs.length-i) z).set i xs[i]=xs.take (i+1)++J1 (xs.length-(i+1)) z:=by
 have h1:(xs.take i).length=i:=by rw[K3];omega
 rw[Hl _ _ (by omega),h1,Kq,show xs.length-i=(xs.length-(i+1))+1 from by omega,Jq,Ku,K4 h];simp only[Ja,Lw]
theorem zJU{α:Type}{f:α→Option α}{body:List α×Int→Option ((List α×Int)⊕List α)}{x0:List α}{z:α}
  (hb:∀s,body s=cond (decide (s.2<(x0.length:Int))) ((ixO x0 s.2).bind fun v2=>(f v2).bind fun r3=>(ixO s.1 s.2).bind fun _=>(rng (s.2+1)).bind fun v5=>ja (.inl (s.1.set s.2.toNat r3,v5))) (ja (.inr s.1)))
  (hl:x0.length≤68719476736)(hf:∀x∈x0,f x=ja x):zH body (J1 x0.length z,0)=ja x0:=by
 have:=zW (body:=body) (r:=x0) (fun i=>(x0.take i++J1 (x0.length-i) z,(i:Int))) x0.length (fun i hi=>by
  rw[hb];simp only[jf (show((i:Int))<(x0.length:Int)from by omega),zN];rw[kE hi,uC];simp only[bs,hf _ (Kf hi)];rw[J3 (by simp;omega),bs,zC (by omega) (by omega),bs];simp only[Je,zSi hi,cs]) (by
  rw[hb];simp only[je (show¬((x0.length:Int))<(x0.length:Int)from by omega),zI,Lo,Kq,Hh,J9])
 simpa using this
theorem zUX{α:Type}[BEq α]{t:α→α→Option Bool}{body:Int→Option (Int⊕(Unit⊕Bool))}{x y:List α}
  (hb:∀i,body i=cond (decide (i<(x.length:Int))) ((ixO x i).bind fun v1=>(ixO y i).bind fun v2=>(t v1 v2).bind fun r3=>cond (!r3) (ja (.inr (.inr jd))) ((rng (i+1)).bind fun v4=>ja (.inl v4))) (ja (.inr (.inl ()))))
  (hl:x.length≤68719476736)(ak:x.length=y.length)(ht:∀u∈x,∀v∈y,t u v=ja (u==v)):zH body 0=ja (if x==y then .inl ()else .inr jd):=by
 have h:=zJi (body:=body) x.length (fun i=>match x[i]?,y[i]? with|some u,ja v=>u==v|_,_=>jc) (fun i hi _=>by
  have fq:i<y.length:=by omega
  rw[hb];simp only[jf (show((i:Int))<(x.length:Int)from by omega),zN];rw[kE hi,kE fq];simp only[bs,ht _ (Kf hi) _ (Kf fq),J3 hi,J3 fq];cases x[i]==y[i]
  ·rfl
  ·simp only[Ka,zI,if_true]
   rw[zC (by omega) (by omega),cs];rfl) (fun _=>by
  rw[hb];simp only[je (show¬((x.length:Int))<(x.length:Int)from by omega),zI])
 rw[h]
 congr 2
 have key:∀(x y:List α),x.length=y.length→((Jl x.length).all (fun i=>match x[i]?,y[i]? with|some u,ja v=>u==v|_,_=>jc))=(x==y):=by
  intro x
  induction x with
  |nil=>intro y hy;cases y with|nil=>rfl|cons _ _=>simp at hy
  |cons u x ih=>
   intro y hy;cases y with
   |nil=>simp at hy
   |cons v y=>
    rw[J6,Jb6,Jbx,List.all_map];simp only[Ja7,Function.comp_def,Uy];rw[ih y (by simpa using hy)];rfl
 rw[key x y ak]
theorem zOU{α:Type}[BEq α]{t:α→α→Option Bool}{f:Option Bool}{body:Int→Option (Int⊕(Unit⊕Bool))}{x y:List α}
  (hf:f=cond ((x.length:Int) != (y.length:Int)) (ja jd) ((zH body 0).bind fun r=>match r with|.inl _=>ja jc|.inr r=>ja r))
  (hb:∀i,body i=cond (decide (i<(x.length:Int))) ((ixO x i).bind fun v1=>(ixO y i).bind fun v2=>(t v1 v2).bind fun r3=>cond (!r3) (ja (.inr (.inr jd))) ((rng (i+1)).bind fun v4=>ja (.inl v4))) (ja (.inr (.inl ()))))
  (hl:x.length≤68719476736)(ht:∀u∈x,∀v∈y,t u v=ja (u==v)):f=ja (x==y):=by
 rw[hf]
 by_cases ak:x.length=y.length
 ·rw[zUX hb hl ak ht]
  have:((x.length:Int) != (y.length:Int))=jd:=by simp[ak]
  rw[this];cases x==y<;>rfl
 ·have:((x.length:Int) != (y.length:Int))=jc:=by simp;omega
  rw[this];have h2:(x==y)=jd:=by
   have key:∀(x y:List α),x.length≠y.length→(x==y)=jd:=by
    intro x
    induction x with
    |nil=>intro y hy;cases y with|nil=>simp at hy|cons _ _=>rfl
    |cons u x ih=>
     intro y hy;cases y with
     |nil=>rfl
     |cons v y=>
      show(u==v&&x==y)=jd;rw[ih y (by simpa using hy),Bool.and_false]
   exact key x y ak
  rw[h2];rfl
end Go.Pl

namespace Go.Pl
open Go Go.Ab
def sm{α:Type}(c:α→Nat):List α→Nat
 | []=>0
 |x::xs=>c x+sm c xs
theorem zDh{α:Type}(c:α→Nat):∀xs ys:List α,sm c (xs++ys)=sm c xs+sm c ys
 | [],ys=>by simp[sm]
 |x::xs,ys=>by simp only[Jp,sm,zDh c xs ys];omega
theorem zGB{α:Type}(c:α→Nat){xs:List α}{i:Nat}(h:i<xs.length):sm c (xs.take (i+1))=sm c (xs.take i)+c xs[i]:=by rw[K4 h,zDh];simp[sm]
theorem zBO{α:Type}(c:α→Nat)(xs:List α)(i:Nat):sm c (xs.take i)≤sm c xs:=by have:=zDh c (xs.take i) (xs.drop i);rw[Jbi]at this;omega
theorem zSj{α:Type}(c:α→Nat){xs:List α}{x:α}(h:x∈xs):c x≤sm c xs:=by obtain⟨i,hi,rfl⟩:=Ga.1 h;have:=zGB c hi;have:=zBO c xs (i+1);omega
def szR(c:Nat)(b:Int):Int:=if(c:Int)≤b then b-c else -1
theorem zW4{α:Type}{c:α→Nat}{t:α→Int→Option Int}{f:Option Int}{body:Int×Int→Option ((Int×Int)⊕(Int⊕Int))}{xs:List α}{b:Int}
  (hf:f=(rng (b-(xs.length:Int))).bind fun v1=>cond (decide (v1<0)) (ja (-1)) ((zH body (v1,0)).bind fun r=>match r with|.inl r=>ja r|.inr r=>ja r))
  (hb:∀s,body s=cond (decide (s.2<(xs.length:Int))) ((ixO xs s.2).bind fun v2=>(t v2 s.1).bind fun r3=>cond (decide (r3<0)) (ja (.inr (.inr (-1)))) ((rng (s.2+1)).bind fun v4=>ja (.inl (r3,v4)))) (ja (.inr (.inl s.1))))
  (hl:xs.length≤9223372036854775807)(b0:0≤b)(b1:b≤1048576)(ht:∀x∈xs,∀b',0≤b'→b'≤1048576→t x b'=ja (szR (c x) b')):f=ja (szR (xs.length+sm c xs) b):=by
 rw[hf,zC (by omega) (by omega),bs]
 by_cases h0:b-(xs.length:Int)<0
 ·rw[jf h0,zN,szR,if_neg (by omega)]
 ·rw[je h0,zI]
  obtain⟨r,h1,h2⟩:=tE (body:=body) (Q:=fun r=>(match r with|.inl r=>ja r|.inr r=>ja r)=ja (szR (xs.length+sm c xs) b)) (fun i s=>s.2=(i:Int)∧0≤s.1∧s.1=b-xs.length-sm c (xs.take i)) xs.length (fun i s hi ⟨e1,e2,e3⟩=>by
   rw[hb,e1,jf (by omega),zN,kE hi,bs,ht _ (Kf hi) _ e2 (by omega),bs];have h3:=zGB c hi;have h4:=zBO c xs (i+1);unfold szR
   by_cases h5:(c xs[i]:Int)≤s.1
   ·rw[if_pos h5,je (by omega),zI,zC (by omega) (by omega),bs,cs]
    exact .inl ⟨_,rfl,rfl,by simp only;omega,by simp only;omega⟩
   ·rw[if_neg h5]
    refine .inr ⟨.inr (-1),rfl,?_⟩;simp only
    rw[if_neg (by omega)]) (fun s ⟨e1,e2,e3⟩=>by
   rw[hb,e1,je (by omega),zI];rw[Lo]at e3;refine⟨_,rfl,?_⟩;simp only
   rw[szR,if_pos (by omega),e3]
   congr 1;omega) (s:=(b-(xs.length:Int),0)) ⟨rfl,by simp only;omega,by simp[sm]⟩
  rw[h1,bs,h2]
def mkL{α:Type}(m:Int→α→α)(c:α→Nat):Int→List α→List α
 |_,[]=>[]
 |k,x::xs=>m k x::mkL m c (k+c x) xs
theorem zEc{α:Type}(m:Int→α→α)(c:α→Nat):∀(xs ys:List α)(k:Int),mkL m c k (xs++ys)=mkL m c k xs++mkL m c (k+sm c xs) ys
 | [],ys,k=>by simp[mkL,sm]
 |x::xs,ys,k=>by simp only[Jp,mkL,sm,zEc m c xs ys];rw[show k+(c x:Int)+(sm c xs:Int)=k+((c x+sm c xs:Nat):Int)from by omega]
theorem uW{α:Type}(m:Int→α→α)(c:α→Nat):∀(xs:List α)(k:Int),(mkL m c k xs).length=xs.length
 | [],_=>rfl
 |x::xs,k=>by simp[mkL,uW m c xs]
theorem zOV{α:Type}(m:Int→α→α)(c:α→Nat){xs:List α}{i:Nat}(h:i<xs.length)(k:Int):(mkL m c k xs)[i]'(by rw[uW];exact h)=m (k+sm c (xs.take i)) xs[i]:=by
 have h1:xs=xs.take i++xs[i]::xs.drop (i+1):=by simp
 have h2:=zEc m c (xs.take i) (xs[i]::xs.drop (i+1)) k;rw[←h1]at h2;rw[List.getElem_of_eq h2];rw[List.getElem_append_right (by rw[uW,K3];omega)];simp[mkL,uW,Gl (Jcq h)]
theorem zF8{α:Type}{m:Int→α→α}{c:α→Nat}{t:α→Int→Option (Int×α)}{body:List α×Int×Int→Option ((List α×Int×Int)⊕(List α×Int))}{xs:List α}{k:Int}
  (hb:∀s,body s=cond (decide (s.2.2<(s.1.length:Int))) ((ixO s.1 s.2.2).bind fun v1=>(t v1 s.2.1).bind fun r2=>(rng (s.2.2+1)).bind fun v3=>ja (.inl (s.1.set s.2.2.toNat r2.2,r2.1,v3))) (ja (.inr (s.1,s.2.1))))
  (hl:xs.length≤1048576)(k0:0≤k)(k1:k+sm c xs≤9223372036854775807)(ht:∀x∈xs,∀k':Int,0≤k'→k'+c x≤9223372036854775807→t x k'=ja (k'+c x,m k' x)):zH body (xs,k,0)=ja (mkL m c k xs,k+sm c xs):=by
 have:=zW (body:=body) (r:=(mkL m c k xs,k+sm c xs)) (fun i=>(mkL m c k (xs.take i)++xs.drop i,k+sm c (xs.take i),(i:Int))) xs.length (fun i hi=>by
  have h1:=zGB c hi;have h2:=zBO c xs (i+1);have gj:(mkL m c k (xs.take i)).length=i:=by rw[uW,K3];omega
  have hg:(mkL m c k (xs.take i)++xs.drop i)[i]? =ja xs[i]:=by rw[J8 (by omega),gj,Kq,Ko,Hy,J3 hi]
  rw[hb];simp only
  rw[jf (by rw[J5,gj,Jz];omega),zN,uC,hg,bs,ht _ (Kf hi) _ (by omega) (by omega),bs,zC (by omega) (by omega),bs,cs];simp only[Je];rw[Hl _ _ (by omega),gj,Kq,Hc hi,Ku,K4 hi,zEc,zDh,Ja];simp only[mkL,sm,Lw,Hy];rw[show k+(sm c (xs.take i):Int)+(c xs[i]:Int)=k+((sm c (xs.take i)+c xs[i]:Nat):Int)from by omega]) (by
  rw[hb];simp only
  rw[je (by rw[J5,uW,K3,Jz];omega),zI];simp only[Lo,Jbv,J9])
 simpa[mkL,sm]using this
theorem zQb{α:Type}{m:Int→α→α}{c:α→Nat}{t:α→Int→Option Int}{f:Option Int}{xs:List α}{k:Int}{body:Int×Int→Option ((Int×Int)⊕(Int⊕Int))}
  (hf:f=(zH body (k,0)).bind fun r=>match r with|.inl r=>ja r|.inr r=>ja r)
  (hb:∀s,body s=cond (decide (s.2<((mkL m c k xs).length:Int))) ((ixO (mkL m c k xs) s.2).bind fun v1=>(t v1 s.1).bind fun r2=>cond (decide (r2<0)) (ja (.inr (.inr (-1)))) ((rng (s.2+1)).bind fun v3=>ja (.inl (r2,v3)))) (ja (.inr (.inl s.1))))
  (hl:xs.length≤1048576)(k0:0≤k)(k1:k+sm c xs≤9223372036854775807)(ht:∀x∈xs,∀k':Int,0≤k'→k'+c x≤9223372036854775807→t (m k' x) k'=ja (k'+c x)):f=ja (k+sm c xs):=by
 have:=zW (body:=body) (r:=.inl (k+sm c xs)) (fun i=>(k+sm c (xs.take i),(i:Int))) xs.length (fun i hi=>by
  have h1:=zGB c hi;have h2:=zBO c xs (i+1);rw[hb];simp only
  rw[uW,jf (by omega),zN,kE (by rw[uW];exact hi),bs,zOV m c hi,ht _ (Kf hi) _ (by omega) (by omega),bs,je (by omega),zI,zC (by omega) (by omega),bs,cs,h1];rw[show k+(sm c (xs.take i):Int)+(c xs[i]:Int)=k+((sm c (xs.take i)+c xs[i]:Nat):Int)from by omega]) (by
  rw[hb];simp only
  rw[uW,je (by omega),zI,Lo])
 rw[hf];simp only[K7,sm]at this;rw[show k+((0:Nat):Int)=k from by omega]at this;rw[show((0:Nat):Int)=0 from rfl]at this;rw[this];rfl
end Go.Pl

namespace Go.Pl
open Go Go.Ab Go.Wk
abbrev VI(n:Int):Prop:=(Lit.int .i64 n).wf=jc
abbrev VL{α:Type}(V:α→Prop)(xs:List α):Prop:=xs.length≤maxLen∧ ∀x∈xs,V x
abbrev c1(x:List Int):Nat:=x.length
abbrev c2(x:List (List Int)):Nat:=x.length+sm c1 x
abbrev c3(x:List (List (List Int))):Nat:=x.length+sm c2 x
theorem zLy{x:List Int}{b:Int}(hl:x.length≤9223372036854775807)(b0:0≤b)(b1:b≤1048576):zTk x b=ja (szR (c1 x) b):=by
 unfold zTk szR;rw[zC (by omega) (by omega),bs]
 by_cases h:(c1 x:Int)≤b
 ·rw[je (by simp only[c1]at h;omega),zI,if_pos h]
 ·rw[jf (by simp only[c1]at h;omega),zN,if_neg h]
theorem zF9{x:List (List Int)}{b:Int}(h:VL (VL VI) x)(b0:0≤b)(b1:b≤1048576):zTl x b=ja (szR (c2 x) b):=
 zW4 (c:=c1) rfl (fun _=>rfl) h.1 b0 b1 fun y hy _ h1 h2=>zLy (h.2 y hy).1 h1 h2
theorem zNl{x:List (List (List Int))}{b:Int}(h:VL (VL (VL VI)) x)(b0:0≤b)(b1:b≤1048576):zYx x b=ja (szR (c3 x) b):=
 zW4 (c:=c2) rfl (fun _=>rfl) h.1 b0 b1 fun y hy _ h1 h2=>zF9 (h.2 y hy) h1 h2
abbrev S1(x:List Int):Prop:=c1 x≤1048576
abbrev S2(x:List (List Int)):Prop:=c2 x≤1048576
abbrev S3(x:List (List (List Int))):Prop:=c3 x≤1048576
theorem S2.mem{x:List (List Int)}(h:S2 x){y:List Int}(hy:y∈x):S1 y:=by have:=zSj c1 hy;simp only[S2,S1,c2]at h ⊢;omega
theorem S3.mem{x:List (List (List Int))}(h:S3 x){y:List (List Int)}(hy:y∈x):S2 y:=by have:=zSj c2 hy;simp only[S3,S2,c3]at h ⊢;omega
theorem S1.len{x:List Int}(h:S1 x):x.length≤1048576:=h
theorem S2.len{x:List (List Int)}(h:S2 x):x.length≤1048576:=by simp only[S2,c2]at h;omega
theorem S3.len{x:List (List (List Int))}(h:S3 x):x.length≤1048576:=by simp only[S3,c3]at h;omega
theorem zLz{x:List Int}(h:S1 x):zQ7 x=ja x:=by unfold zQ7;rw[xM (L9 h (by decide)),bs,zJU (body:=zTm x) (f:=ja) (fun _=>rfl) (L9 h (by decide)) (fun _ _=>rfl),bs]
theorem zFA{x:List (List Int)}(h:S2 x):zNT x=ja x:=by unfold zNT;rw[xM (L9 h.len (by decide)),bs,zJU (body:=zTn x) (f:=zQ7) (fun _=>rfl) (L9 h.len (by decide)) (fun _ hx=>zLz (h.mem hx)),bs]
theorem zNm{x:List (List (List Int))}(h:S3 x):zV0 x=ja x:=by unfold zV0;rw[xM (L9 h.len (by decide)),bs,zJU (body:=zTo x) (f:=zNT) (fun _=>rfl) (L9 h.len (by decide)) (fun _ hx=>zFA (h.mem hx)),bs]
theorem zL0{x y:List Int}(h:S1 x):zTW x y=ja (x==y):=
 zOU (t:=fun u v=>ja (u==v)) (body:=zTV x y) rfl (fun _=>rfl) (L9 h.len (by decide)) fun _ _ _ _=>rfl
theorem zBy{x y:List (List Int)}(h:S2 x):f_R x y=ja (x==y):=
 zOU (t:=zTW) (body:=zY6 x y) rfl (fun _=>rfl) (L9 h.len (by decide)) fun _ hu _ _=>zL0 (h.mem hu)
theorem zNn{x y:List (List (List Int))}(h:S3 x):zY7 x y=ja (x==y):=
 zOU (t:=f_R) (body:=zTX x y) rfl (fun _=>rfl) (L9 h.len (by decide)) fun _ hu _ _=>zBy (h.mem hu)
def m1(k:Int)(x:List Int):List Int:=mkL (fun k _=>k) (fun _=>1) k x
def m2(k:Int)(x:List (List Int)):List (List Int):=mkL m1 c1 k x
def m3(k:Int)(x:List (List (List Int))):List (List (List Int)):=mkL m2 (sm c1) k x
theorem zNo{α:Type}:∀xs:List α,sm (fun _=>1) xs=xs.length
 | []=>rfl
 |x::xs=>by simp[sm,zNo xs];omega
theorem zH9{x:List Int}{k:Int}(h:S1 x)(k0:0≤k)(k1:k+c1 x≤9223372036854775807):zQD x k=ja (k+c1 x,m1 k x):=by
 have h1:=zNo x;have:=zF8 (m:=fun k _=>k) (c:=fun _=>1) (t:=fun v k=>(rng (k+1)).bind fun v2=>ja (v2,k)) (body:=zPG) (xs:=x) (k:=k) (fun s=>by
  unfold zPG
  congr 1
  cases ixO s.1 s.2.2 with
  |none=>rfl
  |some v=>
   simp only[bs];cases rng (s.2.1+1)<;>rfl) h.len k0 (by rw[h1];exact k1) fun v _ k' h1 h2=>by
  have fY:k'+((1:Nat):Int)≤9223372036854775807:=h2;rw[zC (by omega) (by omega),bs];rfl
 unfold zQD;rw[this,bs,h1];rfl
theorem zAN{x:List (List Int)}{k:Int}(h:S2 x)(k0:0≤k)(k1:k+sm c1 x≤9223372036854775807):f_V x k=ja (k+sm c1 x,m2 k x):=by unfold f_V;rw[zF8 (body:=zY8) (m:=m1) (c:=c1) (t:=zQD) (fun _=>rfl) h.len k0 k1 fun y hy _ h1 h2=>zH9 (h.mem hy) h1 h2,bs];rfl
theorem zJV{x:List (List (List Int))}{k:Int}(h:S3 x)(k0:0≤k)(k1:k+sm (sm c1) x≤9223372036854775807):zVE x k=ja (k+sm (sm c1) x,m3 k x):=by unfold zVE;rw[zF8 (body:=zTY) (m:=m2) (c:=sm c1) (t:=f_V) (fun _=>rfl) h.len k0 k1 fun y hy _ h1 h2=>zAN (h.mem hy) h1 h2,bs];rfl
theorem zNp{x:List Int}{k:Int}(h:S1 x)(k0:0≤k)(k1:k+c1 x≤9223372036854775807):zTZ (m1 k x) k=ja (k+c1 x):=by
 have hl:=h.len;have tz:(m1 k x).length=x.length:=uW _ _ _ _;have:=zW (body:=zM6 (m1 k x)) (r:=.inl (k+c1 x)) (fun i=>(k+(i:Int),(i:Int))) x.length (fun i hi=>by
  have hg:(m1 k x)[i]'(by rw[tz];exact hi)=k+sm (fun _=>1) (x.take i):=zOV _ _ hi _;unfold zM6;rw[jf (by simp only[tz];omega),zN,kE (by rw[tz];exact hi),bs,hg,zNo,K3,Gl (by omega),show(k+(i:Int) != k+(i:Int))=jd from by simp,zI,zC (by simp only[c1]at k1;omega) (by simp only[c1]at k1;omega),bs,zC (by omega) (by omega),bs,cs];rw[show k+(i:Int)+1=k+((i+1:Nat):Int)from by omega]) (by
  unfold zM6;rw[je (by simp only[tz];omega),zI])
 unfold zTZ;rw[show k+((0:Nat):Int)=k from by omega,show((0:Nat):Int)=0 from rfl]at this;rw[this];rfl
theorem zL1{x:List (List Int)}{k:Int}(h:S2 x)(k0:0≤k)(k1:k+sm c1 x≤9223372036854775807):zVG (m2 k x) k=ja (k+sm c1 x):=
 zQb (body:=zUa (m2 k x)) (m:=m1) (c:=c1) (t:=zTZ) rfl (fun _=>rfl) h.len k0 k1 fun _ hy _ h1 h2=>zNp (h.mem hy) h1 h2
def zOW(x:SPr):Prop:=VL VI x.zA∧VL (VL VI) x.zT∧VL (VL (VL VI)) x.zE
def zL2(x:SPr):Nat:=c1 x.zA+c2 x.zT+c3 x.zE
def zDB(x:SPr):Prop:=S1 x.zA∧S2 x.zT∧S3 x.zE
theorem zL3{a b:Nat}{n:Int}:(szR a n<0∧szR (a+b) n= -1)∨(0≤szR a n∧szR a n≤n∧szR b (szR a n)=szR (a+b) n∧(a:Int)≤n)∨n<0:=by
 unfold szR
 by_cases h:(a:Int)≤n
 ·rw[if_pos h]
  refine .inr (.inl ⟨by omega,by omega,?_,h⟩)
  by_cases h2:(b:Int)≤n-a
  ·rw[if_pos h2,if_pos (by omega)];omega
  ·rw[if_neg h2,if_neg (by omega)]
 ·rw[if_neg h]
  by_cases h3:n<0
  ·exact .inr (.inr h3)
  ·exact .inl ⟨by omega,by rw[if_neg (by omega)]⟩
theorem zHA{x:SPr}{b:Int}(h:zOW x)(b0:0≤b)(b1:b≤1048576):zVz x b=ja (szR (zL2 x) b):=by
 obtain⟨h1,h2,h3⟩:=h;unfold zVz zL2;rw[zLy h1.1 b0 b1,bs];rcases zL3 (a:=c1 x.zA) (b:=c2 x.zT+c3 x.zE) (n:=b)with⟨g1,g2⟩|⟨g1,g2,g3,g4⟩|g1
 ·rw[jf g1,zN,Lt,g2]
 ·rw[je (by omega),zI,zF9 h2 g1 (by omega),bs,Lt,←g3]
  generalize szR (c1 x.zA) b=b' at g1 g2
  rcases zL3 (a:=c2 x.zT) (b:=c3 x.zE) (n:=b')with⟨k1,k2⟩|⟨k1,k2,k3,k4⟩|k1
  ·rw[jf k1,zN,k2]
  ·rw[je (by omega),zI,zNl h3 k1 (by omega),bs,←k3]
   generalize szR (c2 x.zT) b'=b'' at k1 k2
   unfold szR
   by_cases h4:(c3 x.zE:Int)≤b''
   ·rw[if_pos h4,je (by omega),zI]
   ·rw[if_neg h4];rfl
  ·omega
 ·omega
theorem zOX{c:Nat}{b:Int}(b0:0≤b)(b1:b≤1048576):(decide (szR c b<0)=jc)∨(decide (szR c b<0)=jd∧0≤szR c b∧szR c b≤1048576∧c≤1048576):=by
 unfold szR
 by_cases h:(c:Int)≤b
 ·rw[if_pos h];exact .inr ⟨je (by omega),by omega,by omega,by omega⟩
 ·rw[if_neg h];exact .inl rfl
theorem zDB.of{x:SPr}(h:zL2 x≤1048576):zDB x:=by unfold zL2 at h;exact⟨by simp only[S1];omega,by simp only[S2];omega,by simp only[S3];omega⟩
theorem zHB{x:SPr}(h:zDB x):zNU x=ja x:=by unfold zNU;rw[zLz h.1,bs,zFA h.2.1,bs,zNm h.2.2,bs]
theorem zHC{x:SPr}(h:zDB x):zVD x x=ja jc:=by unfold zVD;rw[zL0 h.1,bs,zBy h.2.1,bs,zNn h.2.2,bs];simp
theorem zHD{x:List (List Int)}:sm c1 x≤c2 x:=by simp only[c2];omega
theorem zOY{α:Type}{f g:α→Nat}(h:∀x,f x≤g x):∀xs:List α,sm f xs≤sm g xs
 | []=>Jo _
 |x::xs=>by have:=zOY h xs;have:=h x;simp only[sm];omega
theorem zXJ{x:List (List (List Int))}:sm (sm c1) x≤c3 x:=by have:=zOY (f:=sm c1) (g:=c2) (fun _=>zHD) x;simp only[c3];omega
end Go.Pl

namespace Go.Pl
open Go Go.Ab Go.Wk
def IsB(o:Option Bool)(P:Prop):Prop:=(o=ja jc∧P)∨(o=ja jd∧ ¬P)
theorem IsB.iff{o:Option Bool}{P Q:Prop}(h:IsB o P)(dJ:P↔Q):IsB o Q:=by
 rcases h with⟨h1,h2⟩|⟨h1,h2⟩
 ·exact .inl ⟨h1,dJ.1 h2⟩
 ·exact .inr ⟨h1,fun h=>h2 (dJ.2 h)⟩
theorem IsB.of_bool{b:Bool}{P:Prop}(h:b=jc↔P):IsB (ja b) P:=by
 cases b
 ·exact .inr ⟨rfl,fun hp=>by have:=h.2 hp;cases this⟩
 ·exact .inl ⟨rfl,h.1 rfl⟩
theorem chk{ρ:Type}{body:Int→Option (Int⊕(Unit⊕ρ))}(n i0:Nat)(hn:i0≤n)(P:Nat→Prop)(bad:Nat→ρ)
  (h:∀i,i0≤i→i<n→(∀j,i0≤j→j<i→P j)→(body (i:Int)=ja (.inl ((i+1:Nat):Int))∧P i)∨(body (i:Int)=ja (.inr (.inr (bad i)))∧ ¬P i))
  (he:body (n:Int)=ja (.inr (.inl ()))):
  (zH body (i0:Int)=ja (.inl ())∧ ∀j,i0≤j→j<n→P j)∨ ∃i,i0≤i∧i<n∧zH body (i0:Int)=ja (.inr (bad i))∧ ¬P i:=by
 have key:∀k i,i0≤i→i+k=n→(∀j,i0≤j→j<i→P j)→(zH body (i:Int)=ja (.inl ())∧ ∀j,i0≤j→j<n→P j)∨ ∃q,i0≤q∧q<n∧zH body (i:Int)=ja (.inr (bad q))∧ ¬P q:=by
  intro k
  induction k with
  |zero=>
   intro i hi hk hp;obtain rfl:i=n:=by omega
   exact .inl ⟨by rw[wA,he],hp⟩
  |succ k ih=>
   intro i hi hk hp;rcases h i hi (by omega) hp with⟨h1,h2⟩|⟨h1,h2⟩
   ·have:=ih (i+1) (by omega) (by omega) fun j a b=>by
     rcases Jk j i with c|c
     ·exact hp j a c
     ·rw[show j=i from by omega];exact h2
    rw[wA,h1];exact this
   ·exact .inr ⟨i,hi,by omega,by rw[wA,h1],h2⟩
 exact key (n-i0) i0 (Jo _) (by omega) fun j a b=>by omega
theorem zA4{f:Option Bool}{body:Int→Option (Int⊕(Unit⊕Bool))}(n:Nat)(P:Nat→Prop)
  (hf:f=(zH body 0).bind fun r=>match r with|.inl _=>ja jc|.inr r=>ja r)
  (h:∀i,i<n→(∀j,j<i→P j)→(body (i:Int)=ja (.inl ((i+1:Nat):Int))∧P i)∨(body (i:Int)=ja (.inr (.inr jd))∧ ¬P i))
  (he:body (n:Int)=ja (.inr (.inl ()))):IsB f (∀i,i<n→P i):=by
 rcases chk n 0 (Kn _) P (fun _=>jd) (fun i _ hi hp=>h i hi fun j hj=>hp j (Kn _) hj) he with⟨h1,h2⟩|⟨i,_,hi,h1,h2⟩
 ·refine .inl ⟨?_,fun i hi=>h2 i (Kn _) hi⟩
  rw[hf];rw[show((0:Nat):Int)=0 from rfl]at h1;rw[h1,bs]
 ·refine .inr ⟨?_,fun hp=>h2 (hp i hi)⟩
  rw[hf];rw[show((0:Nat):Int)=0 from rfl]at h1;rw[h1,bs]
theorem jE{o:Option Bool}{P:Prop}{ρ:Type}{bad:ρ}{i:Nat}{g:Option (Int⊕(Unit⊕ρ))}(h:IsB o P)(hi:i<9223372036854775807)
  (hg:g=o.bind fun r=>cond (!r) (ja (.inr (.inr bad))) ((rng ((i:Int)+1)).bind fun v=>ja (.inl v))):(g=ja (.inl ((i+1:Nat):Int))∧P)∨(g=ja (.inr (.inr bad))∧ ¬P):=by
 subst hg;rcases h with⟨h1,h2⟩|⟨h1,h2⟩
 ·refine .inl ⟨?_,h2⟩
  rw[h1,bs,Ka,zI,zC (by omega) (by omega),bs,cs]
 ·refine .inr ⟨?_,h2⟩
  rw[h1,bs,Kg,zN]
theorem xD{i n:Nat}(h:i<n):decide ((i:Int)<(n:Int))=jc:=jf (by omega)
theorem xP{n:Nat}:decide ((n:Int)<(n:Int))=jd:=je (by omega)
theorem kN(x a b:Int):IsB (zNY x a b) (a≤x∧x≤b):=by
 unfold zNY
 by_cases h:x≥a
 ·rw[jf h,zN];exact IsB.of_bool (by simp;omega)
 ·rw[je h,zI];exact .inr ⟨rfl,by omega⟩
theorem zAO(x a b:Int):IsB (zQ8 x a b) (a≤x∧x≤b):=kN x a b
def Prime(p:Int):Prop:=p=2∨p=3∨p=5∨p=7
theorem zEd(x:Int):IsB (zT0 x) (Prime x):=by
 unfold zT0 Prime
 by_cases h2:x=2
 ·subst h2;exact .inl ⟨rfl,.inl rfl⟩
 ·rw[show(x==2)=jd from by simpa using h2,zI]
  by_cases h3:x=3
  ·subst h3;exact .inl ⟨rfl,.inr (.inl rfl)⟩
  ·rw[show(x==3)=jd from by simpa using h3,zI]
   by_cases h5:x=5
   ·subst h5;exact .inl ⟨rfl,.inr (.inr (.inl rfl))⟩
   ·rw[show(x==5)=jd from by simpa using h5,zI]
    exact IsB.of_bool (by simp;omega)
theorem zHE(x:Int):IsB (zV1 x) (Prime x):=zEd x
abbrev at0(v:List Int)(i:Nat):Int:=v.getD i 0
theorem yP{v:List Int}{i:Nat}(h:i<v.length):ixO v (i:Int)=ja (at0 v i):=by rw[kE h,at0,J2,J3 h];rfl
def zXK(os v:List Int):Prop:=v.length=os.length∧ ∀i,i<v.length→0≤at0 v i∧at0 v i≤at0 os i-1
def Exp(os v:List Int)(k:Nat):Prop:=zXK os v∧ ∀i,i≤k→at0 v i=0
def Os(os:List Int):Prop:=os.length≤9∧ ∀i,i<os.length→Prime (at0 os i)
theorem Prime.pos{p:Int}(h:Prime p):2≤p∧p≤7:=by unfold Prime at h;omega
theorem zFB{x:SPr}{v:List Int}(ho:Os x.zA):IsB (zV7 x v) (zXK x.zA v):=by
 unfold zV7
 by_cases h:v.length=x.zA.length
 ·rw[show((v.length:Int) != (x.zA.length:Int))=jd from by simp[h],zI]
  have h6:=ho.1;refine(zA4 v.length (fun i=>0≤at0 v i∧at0 v i≤at0 x.zA i-1) rfl (fun i hi _=>?_) ?_).iff ⟨fun g=>⟨h,g⟩,fun g=>g.2⟩
  ·have hp:=(ho.2 i (by omega)).pos
   refine jE (kN _ _ _) (by omega) ?_;unfold zPE;rw[xD hi,zN,yP hi,bs,yP (by omega),bs,zC (by omega) (by omega),bs]
  ·unfold zPE
   rw[xP,zI]
 ·rw[show((v.length:Int) != (x.zA.length:Int))=jc from by simp;omega,zN]
  exact .inr ⟨rfl,fun g=>h g.1⟩
theorem zL4{v:List Int}(hl:v.length≤9):IsB (f_W v) (∀i,i<v.length→at0 v i=0):=by
 refine zA4 v.length (fun i=>at0 v i=0) rfl (fun i hi _=>?_) ?_
 ·refine jE (o:=ja (at0 v i==0)) (IsB.of_bool (by simp)) (by omega) ?_
  unfold zQA;rw[xD hi,zN,yP hi,bs,bs];rfl
 ·unfold zQA
  rw[xP,zI]
theorem zCj{x:SPr}{k:Nat}{v:List Int}(ho:Os x.zA)(hk:k<x.zA.length):IsB (zT1 x k v) (Exp x.zA v k):=by
 have h6:=ho.1;unfold zT1;rcases zFB (v:=v) ho with⟨h1,h2⟩|⟨h1,h2⟩
 ·have hl:=h2.1
  rw[h1,bs,zN,zC (by omega) (by omega),bs];have hs:yA v 0 ((k:Int)+1)=ja (v.take (k+1)):=by
   unfold yA;rw[if_pos (by omega)];simp only[Hv,Gb,Ud]
   congr 2
  rw[hs,bs];have hb:=zL4 (v:=v.take (k+1)) (by rw[K3];omega);have fI:(∀i,i<(v.take (k+1)).length→at0 (v.take (k+1)) i=0)↔Exp x.zA v k:=by
   have e:∀i,i≤k→at0 (v.take (k+1)) i=at0 v i:=fun i hi=>by simp only[at0,J2,H5];rw[if_pos (by omega)]
   rw[K3,Gl (by omega)];exact⟨fun g=>⟨h2,fun i hi=>by rw[←e i hi];exact g i (by omega)⟩,fun g i hi=>by rw[e i (by omega)];exact g.2 i (by omega)⟩
  rcases hb.iff fI with⟨g1,g2⟩|⟨g1,g2⟩
  ·rw[g1,bs];exact .inl ⟨rfl,g2⟩
  ·rw[g1,bs];exact .inr ⟨rfl,g2⟩
 ·rw[h1,bs,zI]
  exact .inr ⟨rfl,fun g=>h2 g.1⟩
theorem zCB{os v:List Int}{k:Nat}(ho:Os os)(hk:k<os.length):IsB (zTp os v k) (Exp os v k):=by
 have h6:=ho.1;unfold zTp
 by_cases h:v.length=os.length
 ·rw[show((v.length:Int) != (os.length:Int))=jd from by simp[h],zI]
  refine(zA4 v.length (fun i=>(0≤at0 v i∧at0 v i≤at0 os i-1)∧(i≤k→at0 v i=0)) rfl (fun i hi _=>?_) ?_).iff ⟨fun g=>⟨⟨h,fun i hi=>(g i hi).1⟩,fun i hi=>(g i (by omega)).2 hi⟩,fun g i hi=>⟨g.1.2 i hi,fun hk=>g.2 i hk⟩⟩
  ·have hp:=(ho.2 i (by omega)).pos
   unfold zPB;rw[xD hi,zN,yP hi,bs,yP (by omega),bs,zC (by omega) (by omega),bs];rcases zAO (at0 v i) 0 (at0 os i-1)with⟨h1,h2⟩|⟨h1,h2⟩
   ·rw[h1,bs,Ka,zI]
    by_cases h3:(i:Int)≤(k:Int)
    ·rw[jf h3,zN,bs]
     by_cases h4:at0 v i=0
     ·rw[show(at0 v i != 0)=jd from by simp only[h4];rfl,zI,zC (by omega) (by omega),bs,cs]
      exact .inl ⟨rfl,h2,fun _=>h4⟩
     ·rw[show(at0 v i != 0)=jc from by simpa using h4,zN]
      exact .inr ⟨rfl,fun g=>h4 (g.2 (by omega))⟩
    ·rw[je h3,zI,zC (by omega) (by omega),bs,cs]
     exact .inl ⟨rfl,h2,fun g=>absurd (by omega) h3⟩
   ·rw[h1,bs,Kg,zN]
    exact .inr ⟨rfl,fun g=>h2 g.1⟩
  ·unfold zPB
   rw[xP,zI]
 ·rw[show((v.length:Int) != (os.length:Int))=jc from by simp;omega,zN]
  exact .inr ⟨rfl,fun g=>h g.1.1⟩
end Go.Pl

namespace Go.Pl
open Go Go.Ab Go.Wk
theorem yBc{σ ρ:Type}{body:σ→Option (σ⊕(Unit⊕ρ))}(S:Nat→σ)(n i0:Nat)(hn:i0≤n)(P:Nat→Prop)(bad:Nat→ρ)
  (h:∀i,i0≤i→i<n→(∀j,i0≤j→j<i→P j)→(body (S i)=ja (.inl (S (i+1)))∧P i)∨(body (S i)=ja (.inr (.inr (bad i)))∧ ¬P i))
  (he:body (S n)=ja (.inr (.inl ()))):
  (zH body (S i0)=ja (.inl ())∧ ∀j,i0≤j→j<n→P j)∨ ∃i,i0≤i∧i<n∧zH body (S i0)=ja (.inr (bad i))∧ ¬P i:=by
 have key:∀k i,i0≤i→i+k=n→(∀j,i0≤j→j<i→P j)→(zH body (S i)=ja (.inl ())∧ ∀j,i0≤j→j<n→P j)∨ ∃q,i0≤q∧q<n∧zH body (S i)=ja (.inr (bad q))∧ ¬P q:=by
  intro k
  induction k with
  |zero=>
   intro i hi hk hp;obtain rfl:i=n:=by omega
   exact .inl ⟨by rw[wA,he],hp⟩
  |succ k ih=>
   intro i hi hk hp;rcases h i hi (by omega) hp with⟨h1,h2⟩|⟨h1,h2⟩
   ·have:=ih (i+1) (by omega) (by omega) fun j a b=>by
     rcases Jk j i with c|c
     ·exact hp j a c
     ·rw[show j=i from by omega];exact h2
    rw[wA,h1];exact this
   ·exact .inr ⟨i,hi,by omega,by rw[wA,h1],h2⟩
 exact key (n-i0) i0 (Jo _) (by omega) fun j a b=>by omega
theorem zA5{a b:Int}(h:a=b):(a != b)=jd:=by simp[h]
theorem zAd{a b:Int}(h:a≠b):(a != b)=jc:=by simp[h]
def pr(os:List Int):Nat→Int
 |0=>1
 |i+1=>pr os i*at0 os i
def cp(os:List Int):Nat→Int
 |0=>1
 |i+1=>if cp os i≤729 then cp os i*at0 os i else cp os i
theorem zFC{os:List Int}:∀{i:Nat},(∀j,j<i→Prime (at0 os j))→1≤pr os i
 |0,_=>by simp[pr]
 |i+1,h=>by
  have h1:=zFC (os:=os) (i:=i) fun j hj=>h j (by omega)
  have h2:=(h i (by omega)).pos;simp only[pr];have:(1:Int)*1≤pr os i*at0 os i:=Lu h1 (by omega) (by omega) (by omega);omega
theorem zOZ{os:List Int}{i:Nat}(h:∀j,j≤i→Prime (at0 os j)):pr os i≤pr os (i+1):=by
 have h1:=zFC (os:=os) (i:=i) fun j hj=>h j (by omega)
 have h2:=(h i (Jo _)).pos;simp only[pr];have:pr os i*1≤pr os i*at0 os i:=Jab (by omega) (by omega);omega
theorem zJW{os:List Int}{n:Nat}(h:∀j,j<n→Prime (at0 os j)):∀k,k≤n→pr os (n-k)≤pr os n
 |0,_=>Int.le_refl _
 |k+1,hk=>by
  have h1:=zJW h k (by omega);have h2:=zOZ (os:=os) (i:=n-(k+1)) fun j hj=>h j (by omega)
  rw[show n-(k+1)+1=n-k from by omega]at h2;omega
theorem zSk{os:List Int}:∀{i:Nat},(∀j,j<i→Prime (at0 os j))→(cp os i=pr os i∧pr os i≤729∨729<cp os i∧cp os i≤5103∧729<pr os i)
 |0,_=>by simp[cp,pr]
 |i+1,h=>by
  have h0:∀j,j<i→Prime (at0 os j):=fun j hj=>h j (by omega)
  have h2:=(h i (by omega)).pos;have h3:=zOZ (os:=os) (i:=i) fun j hj=>h j (by omega)
  have ij:=zFC h0;simp only[cp];rcases zSk h0 with⟨h1,h4⟩|⟨h1,h4,h5⟩
  ·rw[h1,if_pos h4]
   have h6:pr os i*at0 os i≤729*7:=Lu h4 h2.2 (by omega) (by omega);simp only[pr]at h3 ⊢
   generalize pr os i*at0 os i=b at h3 h6 ⊢
   simp only[true_and];omega
  ·rw[if_neg (by omega)]
   omega
def zGq(x:SPr)(i:Nat):Prop:=Exp x.zA (x.zT.getD i []) i∧(x.zE.getD i []).length+i+1=x.zA.length∧ ∀j,j<(x.zE.getD i []).length→Exp x.zA ((x.zE.getD i []).getD j []) i
structure zGr (x:SPr):Prop where
 os:True∧ ∀i,i<x.zA.length→Prime (at0 x.zA i)
 pl:x.zT.length=x.zA.length
 cl:x.zE.length=x.zA.length
 tl:∀i,i<x.zA.length→zGq x i
structure Pres (x:SPr):Prop where
 os:Os x.zA
 pl:x.zT.length=x.zA.length
 cl:x.zE.length=x.zA.length
 tl:∀i,i<x.zA.length→zGq x i
theorem Pres.w{x:SPr}(h:Pres x):zGr x:=⟨⟨trivial,h.os.2⟩,h.pl,h.cl,h.tl⟩
structure zCC (x:SPr):Prop extends Pres x where
 n6:x.zA.length≤6
 pr:pr x.zA x.zA.length≤729
theorem yX{α:Type}{v:List α}{i:Nat}(d:α)(h:i<v.length):ixO v (i:Int)=ja (v.getD i d):=by rw[kE h,J2,J3 h];rfl
theorem zNq{x:SPr}(ho:Os x.zA)(hp:x.zT.length=x.zA.length)(hc:x.zE.length=x.zA.length){i:Nat}(hi:i<x.zA.length):
  (zOa x i=ja (.inl ((i+1:Nat):Int))∧zGq x i)∨(zOa x i=ja (.inr (.inr jd))∧ ¬zGq x i):=by
 have h6:=ho.1;unfold zOa;rw[xD hi,zN,yX [] (by omega),bs];rcases zCj (v:=x.zT.getD i []) ho hi with⟨h1,h2⟩|⟨h1,h2⟩
 ·rw[h1,bs,Ka,zI,yX [] (by omega),bs,zC (by omega) (by omega),bs,zC (by omega) (by omega),bs]
  by_cases hl:(x.zE.getD i []).length+i+1=x.zA.length
  ·rw[zA5 (by omega),zI,bs]
   rcases chk (body:=zT2 x i (x.zE.getD i [])) (x.zE.getD i []).length 0 (Kn _) (fun j=>Exp x.zA ((x.zE.getD i []).getD j []) i) (fun _=>jd) (fun j _ hj _=>by
     refine jE (zCj ho hi) (by omega) ?_;unfold zT2;rw[xD hj,zN,yX [] hj,bs]) (by
     unfold zT2;rw[xP,zI])with⟨g1,g2⟩|⟨j,_,hj,g1,g2⟩
   ·rw[show((0:Nat):Int)=0 from rfl]at g1
    rw[g1,bs];simp only
    rw[zC (by omega) (by omega),bs,cs];exact .inl ⟨rfl,h2,hl,fun j hj=>g2 j (Kn _) hj⟩
   ·rw[show((0:Nat):Int)=0 from rfl]at g1
    rw[g1,bs];exact .inr ⟨rfl,fun g=>g2 (g.2.2 j hj)⟩
  ·rw[zAd (by omega),zN]
   exact .inr ⟨rfl,fun g=>hl g.2.1⟩
 ·rw[h1,bs,Kg,zN]
  exact .inr ⟨rfl,fun g=>h2 g.1⟩
theorem zNr{x:SPr}(ho:Os x.zA)(hp:x.zT.length=x.zA.length)(hc:x.zE.length=x.zA.length){i:Nat}(hi:i<x.zA.length):
  (zNV x i=ja (.inl ((i+1:Nat):Int))∧zGq x i)∨(zNV x i=ja (.inr (.inr jd))∧ ¬zGq x i):=by
 have h6:=ho.1;unfold zNV;rw[xD hi,zN,yX [] (by omega),bs];rcases zCB (v:=x.zT.getD i []) ho hi with⟨h1,h2⟩|⟨h1,h2⟩
 ·rw[h1,bs,Ka,zI,yX [] (by omega),bs,zC (by omega) (by omega),bs,zC (by omega) (by omega),bs]
  by_cases hl:(x.zE.getD i []).length+i+1=x.zA.length
  ·rw[zA5 (by omega),zI]
   rcases chk (body:=zTr x i) (x.zE.getD i []).length 0 (Kn _) (fun j=>Exp x.zA ((x.zE.getD i []).getD j []) i) (fun _=>jd) (fun j _ hj _=>by
     refine jE (zCB ho hi) (by omega) ?_;unfold zTr;rw[yX [] (by omega),bs,xD hj,zN,bs,yX [] hj,bs]) (by
     unfold zTr;rw[yX [] (by omega),bs,xP,zI])with⟨g1,g2⟩|⟨j,_,hj,g1,g2⟩
   ·rw[show((0:Nat):Int)=0 from rfl]at g1
    rw[g1,bs];simp only
    rw[zC (by omega) (by omega),bs,cs];exact .inl ⟨rfl,h2,hl,fun j hj=>g2 j (Kn _) hj⟩
   ·rw[show((0:Nat):Int)=0 from rfl]at g1
    rw[g1,bs];exact .inr ⟨rfl,fun g=>g2 (g.2.2 j hj)⟩
  ·rw[zAd (by omega),zN]
   exact .inr ⟨rfl,fun g=>hl g.2.1⟩
 ·rw[h1,bs,Kg,zN]
  exact .inr ⟨rfl,fun g=>h2 g.1⟩
theorem zL5{x:SPr}(h6:x.zA.length≤6):
  (zH (zNZ x) (1,0)=ja (.inl ())∧Os x.zA∧pr x.zA x.zA.length≤729)∨(zH (zNZ x) (1,0)=ja (.inr jd)∧ ¬(Os x.zA∧pr x.zA x.zA.length≤729)):=by
 rcases yBc (body:=zNZ x) (fun i=>(pr x.zA i,(i:Int))) x.zA.length 0 (Kn _) (fun i=>Prime (at0 x.zA i)∧pr x.zA (i+1)≤729) (fun _=>jd) (fun i _ hi cu=>by
   have hp:∀j,j<i→Prime (at0 x.zA j):=fun j hj=>(cu j (Kn _) hj).1
   have ij:=zFC hp;have p6:pr x.zA i≤729:=by
    cases i with
    |zero=>simp[pr]
    |succ i=>exact(cu i (Kn _) (by omega)).2
   unfold zNZ;rw[xD hi,zN,yP hi,bs];rcases zEd (at0 x.zA i)with⟨h1,h2⟩|⟨h1,h2⟩
   ·have h3:=h2.pos
    have h4:pr x.zA i*at0 x.zA i≤729*7:=Lu p6 h3.2 (by omega) (by omega);have h5:1*1≤pr x.zA i*at0 x.zA i:=Lu ij (by omega) (by omega) (by omega);simp only
    rw[h1,bs,Ka,zI,zC (by omega) (by omega),bs]
    by_cases h7:pr x.zA i*at0 x.zA i> 729
    ·rw[jf h7,zN]
     exact .inr ⟨rfl,fun g=>by have:=g.2;simp only[pr]at this;omega⟩
    ·rw[je h7,zI,bs,zC (by omega) (by omega),bs,cs]
     exact .inl ⟨rfl,h2,by simp only[pr];omega⟩
   ·rw[h1,bs,Kg,zN]
    exact .inr ⟨rfl,fun g=>h2 g.1⟩) (by
   unfold zNZ;rw[xP,zI])with⟨g1,g2⟩|⟨i,_,hi,g1,g2⟩
 ·refine .inl ⟨g1,⟨by omega,fun i hi=>(g2 i (Kn _) hi).1⟩,?_⟩
  cases hn:x.zA.length with
  |zero=>simp[pr]
  |succ n=>exact(g2 n (Kn _) (by omega)).2
 ·refine .inr ⟨g1,fun⟨h1,h2⟩=>g2 ⟨h1.2 i hi,?_⟩⟩
  have:=zJW (os:=x.zA) (n:=x.zA.length) h1.2 (x.zA.length-(i+1)) (by omega);rw[show x.zA.length-(x.zA.length-(i+1))=i+1 from by omega]at this;omega
theorem zJX{os:List Int}(ho:Os os):zV2 os=ja (cp os os.length):=by
 have h6:=ho.1;unfold zV2;rw[show(1,0)=(fun i=>(cp os i,(i:Int))) 0 from rfl,zW (body:=zMt os) (r:=cp os os.length) (fun i=>(cp os i,(i:Int))) os.length (fun i hi=>by
  have hp:=(ho.2 i hi).pos;have hc:=zSk (os:=os) (i:=i) fun j hj=>ho.2 j (by omega)
  have ij:=zFC (os:=os) (i:=i) fun j hj=>ho.2 j (by omega)
  unfold zMt;rw[xD hi,zN];simp only[cp]
  by_cases h:cp os i≤729
  ·have h4:cp os i*at0 os i≤729*7:=Lu h hp.2 (by omega) (by omega)
   have h5:1*1≤cp os i*at0 os i:=Lu (by omega) (by omega) (by omega) (by omega);rw[jf h,zN,yP hi,bs,zC (by omega) (by omega),bs,zC (by omega) (by omega),bs,cs,if_pos h]
  ·rw[je h,zI,zC (by omega) (by omega),bs,cs,if_neg h]) (by
  unfold zMt;rw[xP,zI]),bs]
theorem zDx{x:SPr}(hl:x.zA.length≤1048576):IsB (f_t x) (zCC x):=by
 unfold f_t
 by_cases h6:x.zA.length≤6
 ·rw[je (by omega),zI]
  by_cases hp:x.zT.length=x.zA.length
  ·rw[zA5 (by omega),zI]
   by_cases hc:x.zE.length=x.zA.length
   ·rw[zA5 (by omega),zI]
    rcases zL5 h6 with⟨h1,h2,h3⟩|⟨h1,h2⟩
    ·rw[h1,bs]
     exact(zA4 (f:=(zH (zOa x) 0).bind fun r=>match r with|.inl _=>ja jc|.inr r=>ja r) x.zA.length (zGq x) rfl (fun i hi _=>zNq h2 hp hc hi) (by unfold zOa;rw[xP,zI])).iff ⟨fun g=>⟨⟨h2,hp,hc,g⟩,h6,h3⟩,fun g=>g.tl⟩
    ·rw[h1,bs]
     exact .inr ⟨rfl,fun g=>h2 ⟨g.os,g.pr⟩⟩
   ·rw[zAd (by omega),zN]
    exact .inr ⟨rfl,fun g=>hc g.cl⟩
  ·rw[zAd (by omega),zN]
   exact .inr ⟨rfl,fun g=>hp g.pl⟩
 ·rw[jf (by omega),zN]
  exact .inr ⟨rfl,fun g=>h6 g.n6⟩
theorem zDy{x:SPr}(hl:x.zA.length≤1048576):IsB (f_y x) (zCC x):=by
 unfold f_y
 by_cases h6:x.zA.length≤6
 ·rw[je (by omega),zI]
  by_cases hp:x.zT.length=x.zA.length
  ·rw[zA5 (by omega),zI]
   by_cases hc:x.zE.length=x.zA.length
   ·rw[zA5 (by omega),zI]
    rcases chk (body:=zTq x) x.zA.length 0 (Kn _) (fun i=>Prime (at0 x.zA i)) (fun _=>jd) (fun i _ hi _=>by
      refine jE (zHE _) (by omega) ?_;unfold zTq;rw[xD hi,zN,yP hi,bs]) (by
      unfold zTq;rw[xP,zI])with⟨g1,g2⟩|⟨i,_,hi,g1,g2⟩
    ·rw[show((0:Nat):Int)=0 from rfl]at g1
     have ho:Os x.zA:=⟨by omega,fun i hi=>g2 i (Kn _) hi⟩;have hcp:=zSk (os:=x.zA) (i:=x.zA.length) ho.2;rw[g1,bs];simp only
     rw[zJX ho,bs]
     by_cases h7:cp x.zA x.zA.length> 729
     ·rw[jf h7,zN]
      exact .inr ⟨rfl,fun g=>by have:=g.pr;omega⟩
     ·rw[je h7,zI]
      exact(zA4 (f:=(zH (zNV x) 0).bind fun r=>match r with|.inl _=>ja jc|.inr r=>ja r) x.zA.length (zGq x) rfl (fun i hi _=>zNr ho hp hc hi) (by unfold zNV;rw[xP,zI])).iff ⟨fun g=>⟨⟨ho,hp,hc,g⟩,h6,by omega⟩,fun g=>g.tl⟩
    ·rw[show((0:Nat):Int)=0 from rfl]at g1
     rw[g1,bs];exact .inr ⟨rfl,fun g=>g2 (g.os.2 i hi)⟩
   ·rw[zAd (by omega),zN]
    exact .inr ⟨rfl,fun g=>hc g.cl⟩
  ·rw[zAd (by omega),zN]
   exact .inr ⟨rfl,fun g=>hp g.pl⟩
 ·rw[jf (by omega),zN]
  exact .inr ⟨rfl,fun g=>h6 g.n6⟩
end Go.Pl

namespace Go.Pl
open Go Go.Ab Go.Wk Go.Pc
def lvl(x:SPr)(i:Nat):Lvl:=⟨at0 x.zA i,(x.zT.getD i []).drop (i+1),(x.zE.getD i []).map (·.drop (i+1))⟩
def suf(x:SPr)(k:Nat):Pcp:=(Lb k (x.zA.length-k)).map (lvl x)
theorem yQ(x:SPr)(k:Nat):(suf x k).length=x.zA.length-k:=by simp[suf]
theorem yG{x:SPr}{k:Nat}(h:k<x.zA.length):suf x k=lvl x k::suf x (k+1):=by unfold suf;rw[show x.zA.length-k=(x.zA.length-(k+1))+1 from by omega,Jdc,Jv]
theorem vV{x:SPr}{k:Nat}(h:x.zA.length≤k):suf x k=[]:=by unfold suf;rw[show x.zA.length-k=0 from by omega];rfl
theorem zAs{os v:List Int}{k:Nat}(h:Exp os v k)(hk:k<os.length):v=zeros (k+1)++v.drop (k+1):=by
 have h1:=h.1.1;apply Ld;intro i;rw[L5];simp only[zeros,Jh,Kw,Ko];split
 ·rename_i hi
  have h2:=h.2 i (by omega);rw[J3 (by omega)];rw[at0,J2,J3 (by omega)]at h2;simpa using h2
 ·rw[show k+1+(i-(k+1))=i from by omega]
theorem zXL{x:SPr}:∀(d k:Nat)(v:List Int),k+d=x.zA.length→v.length=d→(∀i,i<d→0≤at0 v i∧at0 v i≤at0 x.zA (k+i)-1)→V (suf x k) v
 |0,k,v,hk,hv,_=>by rw[vV (by omega)];simpa[V]using hv
 |d+1,k,v,hk,hv,h=>by
  rw[yG (by omega)]
  match v,hv with
  |a::v,hv=>
   have h0:=h 0 (by omega);simp only[at0,Lv,Hy]at h0;refine⟨⟨h0.1,by simp only[lvl,at0];omega⟩,zXL d (k+1) v (by omega) (by simpa using hv) fun i hi=>?_⟩;have:=h (i+1) (by omega);simp only[at0,Ug]at this;rw[show k+1+i=k+(i+1)from by omega];exact this
theorem jL{x:SPr}{v:List Int}{k:Nat}(h:Exp x.zA v k)(hk:k<x.zA.length):V (suf x (k+1)) (v.drop (k+1)):=by
 have h1:=h.1.1;refine zXL (x.zA.length-(k+1)) (k+1) _ (by omega) (by rw[Jz];omega) fun i hi=>?_
 have:=h.1.2 (k+1+i) (by omega);have e:at0 (v.drop (k+1)) i=at0 v (k+1+i):=by simp only[at0,J2,Ko]
 rw[e];exact this
theorem zGr.ok{x:SPr}(h:zGr x):∀(d k:Nat),k+d=x.zA.length→Pc.Ok (suf x k)
 |0,k,hk=>by rw[vV (by omega)];simp only[Pc.Ok]
 |d+1,k,hk=>by
  rw[yG (by omega)];obtain⟨t1,t2,t3⟩:=h.tl k (by omega);refine⟨by simp only[lvl];have:=(h.os.2 k (by omega)).pos;omega,jL t1 (by omega),?_,fun c hc=>?_,zGr.ok h d (k+1) (by omega)⟩
  ·rw[yQ];simp only[lvl,Jd];omega
  ·simp only[lvl,Js]at hc
   obtain⟨u,hu,rfl⟩:=hc;obtain⟨j,hj,rfl⟩:=Ga.1 hu;have:=t3 j hj;rw[J2,J3 hj]at this;exact jL this (by omega)
theorem zGr.okAt{x:SPr}(h:zGr x){k:Nat}(hk:k≤x.zA.length):Pc.Ok (suf x k):=h.ok (x.zA.length-k) k (by omega)
theorem Pres.okAt{x:SPr}(h:Pres x){k:Nat}(hk:k≤x.zA.length):Pc.Ok (suf x k):=h.w.okAt hk
theorem yC(n:Nat):(zeros n).length=n:=by simp[zeros]
theorem zGs(k:Nat):zeros (k+1)=zeros k++[0]:=by simp[zeros,H6]
theorem zDC{k:Nat}{a b:Int}{v:Vec}:(zeros k++a::v).set k b=zeros k++b::v:=by rw[Hl _ _ (by rw[yC];omega),yC,Kq,Ku]
theorem zCD{k:Nat}{a:Int}{v:Vec}:ixO (zeros k++a::v) (k:Int)=ja a:=by rw[uC,J8 (by rw[yC];omega),yC,Kq];rfl
theorem zBP{k:Nat}{v:Vec}:zeros k++0::v=zeros (k+1)++v:=by rw[zGs,Ja];rfl
theorem qO{v:List Int}(h:v.length≤1000000):f_z v=ja v:=by unfold f_z;rw[yN (by simp;omega),bs,Ji]
end Go.Pl

namespace Go.Pl
open Go Go.Ab Go.Wk Go.Pc
theorem zBz{m:Vec→Vec→Vec}:∀(cs:List Vec)(x:Vec)(i:Nat)(acc:Vec),i<cs.length→i<x.length→
  img m (cs.take (i+1)) (x.take (i+1)) acc=iter (at0 x i).toNat (fun v=>m v (cs.getD i [])) (img m (cs.take i) (x.take i) acc)
 | [],_,_,_,h,_=>by simp at h
 |_::_,[],_,_,_,h=>by simp at h
 |c::cs,a::x,0,acc,_,_=>by simp only[Jg,Kb,K7,img,at0,Lv]
 |c::cs,a::x,i+1,acc,h,h'=>by simp only[Kb,img,at0,Ug];exact zBz cs x i _ (by simpa using h) (by simpa using h')
theorem uX{α β:Type}{body:α×Int→Option ((α×Int)⊕α)}{S:β→Prop}(e:β→α)(g:β→β)(n:Int)(hn:0≤n)(hS:∀a,S a→S (g a))
  (h:∀a(i:Nat),S a→(i:Int)<n→body (e a,(i:Int))=ja (.inl (e (g a),((i+1:Nat):Int))))(he:∀a,S a→body (e a,n)=ja (.inr (e a))){a:β}(ha:S a):
  zH body (e a,0)=ja (e (iter n.toNat g a)):=by
 have e6:∀k,S (iter k g a):=fun k=>vO (S:=S) hS k ha
 exact zW (body:=body) (r:=e (iter n.toNat g a)) (fun i=>(e (iter i g a),(i:Int))) n.toNat (fun i hi=>by
  rw[h _ i (e6 i) (by omega),wX]) (by
  rw[show((n.toNat:Nat):Int)=n from by omega];exact he _ (e6 _))
theorem zL6{k i:Nat}{v:Vec}(h:i<v.length):ixO (zeros k++v) ((k+i:Nat):Int)=ja (at0 v i):=by rw[uC,J8 (by rw[yC];omega),yC,show k+i-k=i from by omega,J3 h,at0,J2,J3 h];rfl
theorem zEe{x:SPr}(ho:Os x.zA):∀(d k:Nat)(v:List Int),k+d=x.zA.length→V (suf x k) v→v.length=d∧ ∀i,i<d→0≤at0 v i∧at0 v i<at0 x.zA (k+i)∧at0 v i≤6
 |0,k,v,hk,hv=>by rw[vV (by omega)]at hv;simp only[V]at hv;subst hv;exact⟨rfl,fun i hi=>by omega⟩
 |d+1,k,v,hk,hv=>by
  rw[yG (by omega)]at hv
  match v,hv with
  |a::v,hv=>
   obtain⟨h1,h2⟩:=zEe ho d (k+1) v (by omega) hv.2;refine⟨by simp[h1],fun i hi=>?_⟩;cases i with
   |zero=>
    have h3:=hv.1;simp only[lvl]at h3;have:=(ho.2 k (by omega)).pos;simp only[at0,Lv,Hy]at h3 this ⊢
    omega
   |succ i=>
    have:=h2 i (by omega);simp only[at0,Ug]at this ⊢
    rw[show k+(i+1)=k+1+i from by omega];exact this
theorem zEH{x:SPr}(h:Pres x){k i:Nat}(hk:k<x.zA.length)(hi:i<x.zA.length-(k+1)):
  ∃c,ixO x.zE (k:Int)=ja (x.zE.getD k [])∧ixO (x.zE.getD k []) (i:Int)=ja (zeros (k+1)++c)∧V (suf x (k+1)) c∧(lvl x k).cs.getD i []=c:=by
 obtain⟨t1,t2,t3⟩:=h.tl k hk;have hc:=h.cl;have ht:=t3 i (by omega);refine⟨((x.zE.getD k []).getD i []).drop (k+1),yX [] (by omega),?_,jL ht hk,?_⟩
 ·rw[yX [] (by omega),←zAs ht hk]
 ·simp only[lvl,J2,K1]
  rw[J3 (l:=x.zE[k]?.getD []) (by rw[J2]at t2;omega)];rfl
def FAt(x:SPr)(k:Nat)(g:SPr→Int→List Int→List Int→Option (List Int)):Prop:=
 ∀a b,V (suf x k) a→V (suf x k) b→g x k (zeros k++a) (zeros k++b)=ja (zeros k++mul (suf x k) a b)
def FIm(x:SPr)(k:Nat)(g:SPr→Int→List Int→Option (List Int)):Prop:=
 ∀v,V (suf x (k+1)) v→g x k (zeros (k+1)++v)=ja (zeros (k+1)++sig (suf x (k+1)) (lvl x k) v)
theorem zNs{x:SPr}(h:Pres x){k:Nat}(hk:k<x.zA.length){g:SPr→Int→List Int→List Int→Option (List Int)}(hg:FAt x (k+1) g):FIm x k (b_g g):=by
 intro v hv;have h6:=h.os.1;have ok:=h.okAt (k:=k+1) (by omega);obtain⟨cR,dD⟩:=zEe h.os (x.zA.length-(k+1)) (k+1) v (by omega) hv;have gj:=yQ x (k+1);have gG:(lvl x k).cs.length=x.zA.length-(k+1):=by have:=h.okAt (k:=k) (by omega);rw[yG hk]at this;rw[this.2.2.1,gj]
 have gN:∀c∈(lvl x k).cs,V (suf x (k+1)) c:=by have:=h.okAt (k:=k) (by omega);rw[yG hk]at this;exact this.2.2.2.1
 have hA:∀i,V (suf x (k+1)) (img (mul (suf x (k+1))) ((lvl x k).cs.take i) (v.take i) (zeros (suf x (k+1)).length)):=fun i=>
  jD (xH ok) _ _ (fun c hc=>gN c (U5 hc)) (wP ok)
 unfold b_g;rw[xM (by omega),bs,zC (by omega) (by omega),bs,cs];have hz:J1 x.zA.length (0:Int)=zeros (k+1)++zeros (suf x (k+1)).length:=by rw[gj];simp only[zeros,Jw];congr 1;omega
 rw[hz];have:=zW (body:=zTt g x k (zeros (k+1)++v)) (r:=zeros (k+1)++sig (suf x (k+1)) (lvl x k) v)
  (fun i=>(zeros (k+1)++img (mul (suf x (k+1))) ((lvl x k).cs.take i) (v.take i) (zeros (suf x (k+1)).length),((k+1+i:Nat):Int))) (x.zA.length-(k+1)) (fun i hi=>by
  have hr:=dD i hi;obtain⟨c,c1,c2,c3,c4⟩:=zEH h hk hi;unfold zTt;rw[jf (by simp only;omega),zN];rw[uX (S:=V (suf x (k+1))) (body:=zTs g x k (zeros (k+1)++v) (zeros (k+1)++img (mul (suf x (k+1))) ((lvl x k).cs.take i) (v.take i) (zeros (suf x (k+1)).length),((k+1+i:Nat):Int))) (fun u=>zeros (k+1)++u) (fun u=>mul (suf x (k+1)) u c) (at0 v i) hr.1 (fun u hu=>xH ok hu c3) (fun u q hu hq=>by
   unfold zTs;simp only
   rw[zL6 (by omega),bs,jf hq,zN,zC (by omega) (by omega),bs,c1,bs,zC (by omega) (by omega),bs,zC (by omega) (by omega),bs,
    show(((k+1+i:Nat):Int)-(k:Int)-1)=(i:Int)from by omega,c2,bs,cs,hg u c hu c3,bs,zC (by omega) (by omega),bs,cs]) (fun u hu=>by
   unfold zTs;simp only
   rw[zL6 (by omega),bs,je (by omega),zI]) (hA i),bs,zC (by omega) (by omega),bs,cs]
  rw[zBz _ _ _ _ (by omega) (by omega),c4];rfl) (by
  unfold zTt;rw[je (by simp only;omega),zI,Jr (by omega),Jr (by omega)];rfl)
 simp only[K7,img]at this;rw[this,bs]
theorem zUY{x:SPr}(h:Pres x){k:Nat}(hk:k<x.zA.length){g:SPr→Int→List Int→List Int→Option (List Int)}{gi:SPr→Int→List Int→Option (List Int)}(hg:FAt x (k+1) g)(hi:FIm x k gi):FAt x k (b_a gi g):=by
 intro a b ha hb;have h6:=h.os.1;have hp:=(h.os.2 k hk).pos;have ok:=h.okAt (k:=k+1) (by omega);have ok0:=h.okAt (k:=k) (by omega);obtain⟨mf,har⟩:=zEe h.os (x.zA.length-k) k a (by omega) ha;obtain⟨fL,hbr⟩:=zEe h.os (x.zA.length-k) k b (by omega) hb;rw[yG hk]at ha hb ok0;obtain⟨a0,a,rfl⟩:∃a0 a',a=a0::a':=by cases a with|nil=>simp at mf;omega|cons p q=>exact⟨p,q,rfl⟩
 obtain⟨b0,b,rfl⟩:∃a0 a',b=a0::a':=by cases b with|nil=>simp at fL;omega|cons p q=>exact⟨p,q,rfl⟩
 obtain⟨⟨a1,a2⟩,ha⟩:=ha;obtain⟨⟨b1,b2⟩,hb⟩:=hb;have pL:(lvl x k).o=at0 x.zA k:=rfl;rw[pL]at a2 b2;unfold b_a;rw[je (by omega),zI,qO (by simp[yC]at mf ⊢;omega),bs,qO (by simp[yC]at fL ⊢;omega),bs,zCD,bs,zCD,bs,Je,zDC,zDC,zBP,zBP];have ep:∀u,V (suf x (k+1)) u→V (suf x (k+1)) (sig (suf x (k+1)) (lvl x k) u):=fun u hu=>zC9 ok0 hu
 have e6:V (suf x (k+1)) (iter b0.toNat (sig (suf x (k+1)) (lvl x k)) a):=vO ep _ ha;rw[uX (S:=V (suf x (k+1))) (fun u=>zeros (k+1)++u) (sig (suf x (k+1)) (lvl x k)) b0 b1 ep (fun u q hu hq=>by
   unfold zV3;simp only
   rw[zCD,bs,jf hq,zN,hi u hu,bs,zC (by omega) (by omega),bs,cs]) (fun u hu=>by
   unfold zV3;simp only
   rw[zCD,bs,je (by omega),zI]) ha,bs,zC (by omega) (by omega),bs,cs,hg _ _ e6 hb,bs,bs,bs,zC (by omega) (by omega),bs,yP hk,bs]
 have hm:=xH ok e6 hb;have tz:=(zEe h.os (x.zA.length-(k+1)) (k+1) _ (by omega) hm).1;have own:∀u,V (suf x (k+1)) u→f_z (zeros (k+1)++u)=ja (zeros (k+1)++u):=fun u hu=>qO (by have:=(zEe h.os (x.zA.length-(k+1)) (k+1) _ (by omega) hu).1;rw[J5,yC];omega)
 rw[yG hk,yZ,pL]
 by_cases hge:a0+b0≥at0 x.zA k
 ·have t1:=(h.tl k hk).1
  have hw:=jL t1 hk;have hwl:=h.pl;rw[jf hge,zN,if_pos hge,bs,zC (by omega) (by omega),bs,bs,yX [] (by omega),bs,zAs t1 hk,hg _ _ hw hm,bs,own _ (xH ok hw hm),bs];rw[←zBP,zCD,bs,zDC];rfl
 ·rw[je hge,zI,if_neg hge,own _ hm,bs,←zBP,zCD,bs,zDC]
theorem zFD{x:SPr}(h:Pres x):∀(d k:Nat),k+d=x.zA.length→(∀m,2*d+1≤m→FAt x k (zNX m))∧(1≤d→ ∀m,2*d≤m→FIm x k (zNW m))
 |0,k,hk=>by refine⟨fun m hm a b ha hb=>?_,fun h=>by omega⟩;have h6:=h.os.1;obtain⟨m,rfl⟩:∃m',m=m'+1:=⟨m-1,by omega⟩;show b_a _ _ x k _ _=_;unfold b_a;rw[jf (by omega),zN,xM (by omega),bs,vV (by omega)];simp only[mul,J9,zeros];rw[show k=x.zA.length from by omega]
 |d+1,k,hk=>by
  obtain⟨h1,h2⟩:=zFD h d (k+1) (by omega);have hI:∀m,2*(d+1)≤m→FIm x k (zNW m):=fun m hm=>by obtain⟨m,rfl⟩:∃m',m=m'+1:=⟨m-1,by omega⟩;exact zNs h (by omega) (h1 m (by omega))
  refine⟨fun m hm=>?_,fun _=>hI⟩;obtain⟨m,rfl⟩:∃m',m=m'+1:=⟨m-1,by omega⟩;exact zUY h (by omega) (h1 m (by omega)) (hI m (by omega))
theorem zPa{x:SPr}(h:Pres x){k:Nat}(hk:k≤x.zA.length):FAt x k f_a:=fun a b ha hb=>
 zBv (2*(x.zA.length-k)+1) fun m hm=>(zFD h (x.zA.length-k) k (by omega)).1 m hm a b ha hb
theorem zNt{x:SPr}(h:Pres x){k:Nat}(hk:k<x.zA.length):FIm x k f_g:=fun v hv=>
 zBv (2*(x.zA.length-k)) fun m hm=>(zFD h (x.zA.length-k) k (by omega)).2 (by omega) m hm v hv
end Go.Pl

namespace Go.Pl
open Go Go.Ab Go.Wk Go.Pc
theorem zCE:∀{P Q:Pcp},Q<:+P→wR P→wR Q
 | [],Q,h,_=>by have:=Jc0.1 h;subst this;simp only[wR]
 |l::P,Q,h,hc=>by
  rcases Jay.1 h with rfl|h
  ·exact hc
  ·exact zCE h hc.1
theorem zJj:∀{P Q:Pcp},Q<:+P→Pc.Ok P→Pc.Ok Q
 | [],Q,h,_=>by have:=Jc0.1 h;subst this;simp only[Pc.Ok]
 |l::P,Q,h,hc=>by
  rcases Jay.1 h with rfl|h
  ·exact hc
  ·exact zJj h hc.2.2.2.2
theorem zNu(x:SPr)(k:Nat):suf x (k+1)<:+suf x k:=by
 by_cases h:k<x.zA.length
 ·rw[yG h];exact Qm _ _
 ·rw[vV (by omega)];exact List.nil_suffix
theorem zEI{x:SPr}{k:Nat}(h:wR (suf x k)):∀i,wR (suf x (k+i))
 |0=>h
 |i+1=>zCE (zNu x (k+i)) (zEI h i)
theorem zHF{x:SPr}(h:Pres x){k:Nat}(hk:k≤x.zA.length)(hc:wR (suf x k)):Grp (V (suf x k)) (mul (suf x k)) (zeros (suf x k).length):=zCA _ (h.okAt hk) hc
theorem zGC{x:SPr}:∀(i k:Nat)(v:Vec),k+i≤x.zA.length→V (suf x k) v→ ∃q v',v=q++v'∧q.length=i∧V (suf x (k+i)) v'∧
  ∀a b,V (suf x (k+i)) a→V (suf x (k+i)) b→mul (suf x k) (q++a) (zeros i++b)=q++mul (suf x (k+i)) a b
 |0,k,v,_,hv=>⟨[],v,rfl,rfl,hv,fun a b _ _=>rfl⟩
 |i+1,k,v,hk,hv=>by
  rw[yG (by omega)]at hv
  match v,hv with
  |e::v,hv=>
   obtain⟨q,v',h1,h2,h3,h4⟩:=zGC i (k+1) v (by omega) hv.2;rw[show k+1+i=k+(i+1)from by omega]at h3 h4;refine⟨e::q,v',by rw[h1];rfl,by simp[h2],h3,fun a b ha hb=>?_⟩;have he:=hv.1;rw[yG (by omega)];show mul (lvl x k::suf x (k+1)) (e::(q++a)) (0::(zeros i++b))=_;rw[yZ,Hd,if_neg (by omega)];simp only[Hv,iter];rw[h4 a b ha hb];rfl
def FTV(x:SPr)(k:Nat)(g:SPr→List Int→List Int→Option (List Int)):Prop:=
 ∀p v u,p.length=k→V (suf x k) v→V (suf x k) u→g x (p++v) (zeros k++u)=ja (p++mul (suf x k) v u)
def FTG(x:SPr)(k:Nat)(g:SPr→List Int→Int→Option (List Int)):Prop:=
 ∀p v,p.length=k→V (suf x k) v→g x (p++v) (k:Int)=ja (p++mul (suf x k) v (1::zeros (x.zA.length-(k+1))))
theorem zJk{x:SPr}(h:Pres x){k:Nat}(hk:k<x.zA.length){g:SPr→List Int→List Int→Option (List Int)}(hg:FTV x (k+1) g){t:Vec}(ht:V (suf x (k+1)) t)
  {body1:List Int×Int→Int→List Int×Int→Option ((List Int×Int)⊕List Int)}{body2:List Int×Int→Option ((List Int×Int)⊕List Int)}
  (pX:∀s,body2 s=cond (decide (s.2<(t.length:Int))) ((ixO t s.2).bind fun v17=>(zH (body1 s v17) (s.1,0)).bind fun r=>(rng (s.2+1)).bind fun v=>ja (.inl (r,v))) (ja (.inr s.1)))
  (dT:∀s v q,body1 s v q=cond (decide (q.2<v)) ((ixO x.zE (k:Int)).bind fun cl=>(ixO cl s.2).bind fun c=>(g x q.1 c).bind fun r=>(rng (q.2+1)).bind fun w=>ja (.inl (r,w))) (ja (.inr q.1)))
  {p:Vec}(hp:p.length=k+1){u:Vec}(hu:V (suf x (k+1)) u):zH body2 (p++u,0)=ja (p++img (mul (suf x (k+1))) (lvl x k).cs t u):=by
 have h6:=h.os.1;have ok:=h.okAt (k:=k+1) (by omega);have ok0:=h.okAt (k:=k) (by omega);rw[yG hk]at ok0;obtain⟨cE,aC⟩:=zEe h.os (x.zA.length-(k+1)) (k+1) t (by omega) ht;have gG:(lvl x k).cs.length=x.zA.length-(k+1):=by rw[ok0.2.2.1,yQ]
 have hA:∀i,V (suf x (k+1)) (img (mul (suf x (k+1))) ((lvl x k).cs.take i) (t.take i) u):=fun i=>
  jD (xH ok) _ _ (fun c hc=>ok0.2.2.2.1 c (U5 hc)) hu
 have:=zW (body:=body2) (r:=p++img (mul (suf x (k+1))) (lvl x k).cs t u) (fun i=>(p++img (mul (suf x (k+1))) ((lvl x k).cs.take i) (t.take i) u,(i:Int))) t.length (fun i hi=>by
  have hr:=aC i (by omega);obtain⟨c,c1,c2,c3,c4⟩:=zEH h hk (i:=i) (by omega);rw[pX];simp only
  rw[xD hi,zN,yP hi,bs];rw[uX (S:=V (suf x (k+1))) (fun u=>p++u) (fun u=>mul (suf x (k+1)) u c) (at0 t i) hr.1 (fun u hu=>xH ok hu c3) (fun u q hu hq=>by
   rw[dT];simp only
   rw[jf hq,zN,c1,bs,c2,bs,hg p u c hp hu c3,bs,zC (by omega) (by omega),bs,cs]) (fun u hu=>by
   rw[dT];simp only
   rw[je (by omega),zI]) (hA i),bs,zC (by omega) (by omega),bs,cs]
  rw[zBz _ _ _ _ (by omega) (by omega),c4]) (by
  rw[pX];simp only
  rw[xP,zI,Jr (by omega),Jr (by omega)])
 simp only[K7,img]at this;exact this
theorem zW5{p v:Vec}{a:Int}{k:Nat}(hp:p.length=k):ixO (p++a::v) (k:Int)=ja a:=by rw[uC,J8 (by omega),hp,Kq];rfl
theorem p_set{p v:Vec}{a b:Int}{k:Nat}(hp:p.length=k):(p++a::v).set k b=p++b::v:=by rw[Hl _ _ (by omega),hp,Kq,Ku]
theorem zL7{x:SPr}(h:Pres x){k:Nat}(hk:k<x.zA.length)(hc:wR (suf x (k+1))){g:SPr→List Int→List Int→Option (List Int)}(hg:FTV x (k+1) g):FTG x k (b_b g):=by
 intro p v hp hv;have h6:=h.os.1;have G:=zHF h (k:=k+1) (by omega) hc;have ok:=h.okAt (k:=k+1) (by omega);have ok0:=h.okAt (k:=k) (by omega);obtain⟨cR,dD⟩:=zEe h.os (x.zA.length-k) k v (by omega) hv;rw[yG hk]at hv ok0;obtain⟨e,t,rfl⟩:∃a0 a',v=a0::a':=by cases v with|nil=>simp at cR;omega|cons p q=>exact⟨p,q,rfl⟩
 obtain⟨⟨e1,e2⟩,ht⟩:=hv;have pL:(lvl x k).o=at0 x.zA k:=rfl;rw[pL]at e2;have cv:=(h.os.2 k hk).pos;have cE:=(zEe h.os (x.zA.length-(k+1)) (k+1) t (by omega) ht).1;have pb:=yQ x (k+1);unfold b_b;have hs:yA (p++e::t) ((k+1:Nat):Int) ((p++e::t).length:Int)=ja t:=by
  unfold yA;rw[if_pos (by simp only[J5,J6];omega)];have e3:(p++e::t).drop (k+1)=t:=by rw[Jbw,Jba (by omega),hp,show k+1-k=1 from by omega];rfl
  simp only[Je,e3,J5,J6];rw[Jr (by omega)]
 have bX:f_H t=ja t:=by unfold f_H;rw[yN (by simp;omega),bs,Ji]
 rw[zC (by omega) (by omega),bs,cs,hs,bs,bX,bs];have hz:=zW (body:=zT3 k t) (r:=(p++[e])++zeros t.length) (fun i=>((p++[e])++(zeros i++t.drop i),(i:Int))) t.length (fun i hi=>by
  have hl:((p++[e])++zeros i).length=k+1+i:=by simp[yC,hp];omega
  unfold zT3;simp only
  rw[xD hi,zN,zC (by omega) (by omega),bs,zC (by omega) (by omega),bs,show(k:Int)+1+(i:Int)=((k+1+i:Nat):Int)from by omega,uC,←Ja,J8 (by omega),hl,Kq,
   Hc hi,Ja7,bs,zC (by omega) (by omega),bs,cs,Je,Hl _ _ (by omega),hl,Kq,Ku,zGs]
  simp only[Ja,Jp,Ji]) (by
  unfold zT3;simp only
  rw[xP,zI,Jbv,J9])
 simp only[zeros,Hh,Gb,Ji,Ja,Lw]at hz;rw[show((0:Nat):Int)=0 from rfl]at hz;rw[hz,bs,Je,zW5 hp,bs,zC (by omega) (by omega),bs,bs,p_set hp,zW5 hp,bs,yP hk,bs];have eS:J1 t.length (0:Int)=zeros (suf x (k+1)).length:=by rw[pb,cE];rfl
 rw[yG hk,yZ,pL];have gp:mul (suf x (k+1)) (iter (1:Int).toNat (sig (suf x (k+1)) (lvl x k)) t) (zeros (x.zA.length-(k+1)))=sig (suf x (k+1)) (lvl x k) t:=by rw[←pb];show mul _ (sig (suf x (k+1)) (lvl x k) t) _=_;exact G.oner (zC9 ok0 ht)
 rw[gp,eS]
 by_cases heq:e+1=at0 x.zA k
 ·have t1:=(h.tl k hk).1
  have hw:=jL t1 hk;have hwl:=h.pl;have dL:(p++[(0:Int)]).length=k+1:=by simp[hp]
  rw[show(e+1==at0 x.zA k)=jc from by simpa using heq,zN,if_pos (by omega),bs,yX [] (by omega),bs,p_set hp];have dW:p++0::zeros (suf x (k+1)).length=(p++[0])++zeros (suf x (k+1)).length:=by simp
  rw[dW,zAs t1 hk,hg _ _ _ dL G.ein hw,bs,G.onel hw];rw[zJk (body1:=zY1 g x k) (body2:=zY2 g x k t) h hk hg ht (fun _=>rfl) (fun _ _ _=>rfl) dL hw,bs];rw[zEG G.toMon _ _ ok0.2.2.2.1 hw,show e+1-at0 x.zA k=0 from by omega];simp only[Ja,Lw];rfl
 ·have dL:(p++[e+1]).length=k+1:=by simp[hp]
  rw[show(e+1==at0 x.zA k)=jd from by simpa using heq,zI,if_neg (by omega)];have dW:p++(e+1)::zeros (suf x (k+1)).length=(p++[e+1])++zeros (suf x (k+1)).length:=by simp
  rw[dW,zJk (body1:=zY3 g x k) (body2:=zY4 g x k t) h hk hg ht (fun _=>rfl) (fun _ _ _=>rfl) dL G.ein,bs];simp only[Ja,Lw];rfl
theorem zAn{n i:Nat}(h:i<n):xN n i=zeros i++1::zeros (n-(i+1)):=by
 have:zeros n=zeros i++0::zeros (n-(i+1)):=by
  simp only[zeros];rw[←Jq,Jw]
  congr 1;omega
 rw[xN,this,zDC]
theorem zEJ(n:Nat):(wL n).length=n:=by simp[wL]
theorem zHG{n i:Nat}(h:i<n):(wL n).getD i []=xN n i:=by simp[wL,J2,h]
theorem zSl{x:SPr}(h:Pres x){k:Nat}(hk:k≤x.zA.length)(hc:wR (suf x k)){g:SPr→List Int→Int→Option (List Int)}(hg:∀j,k≤j→j<x.zA.length→FTG x j g):FTV x k (b_c g):=by
 intro p v u hp hv hu;have h6:=h.os.1;have G:=zHF h hk hc;have ok:=h.okAt hk;obtain⟨f8,u7⟩:=zEe h.os (x.zA.length-k) k u (by omega) hu;have pb:=yQ x k;have hV1:∀j,j≤x.zA.length→j<x.zA.length→V (suf x j) (1::zeros (x.zA.length-(j+1))):=fun j hj d9=>by rw[yG d9];have:=(h.os.2 j d9).pos;refine⟨⟨by omega,by show 1<at0 x.zA j;omega⟩,?_⟩;rw[←yQ];exact wP (h.okAt (by omega))
 have hUn:∀i,i<x.zA.length-k→V (suf x k) (xN (x.zA.length-k) i):=fun i hi=>by
  rw[←pb]at hi ⊢
  exact zC8 ok hi
 have hUs:∀c∈wL (x.zA.length-k),V (suf x k) c:=fun c hc=>by simp only[wL,Js,Kv]at hc;obtain⟨i,hi,rfl⟩:=hc;exact hUn i hi
 have hA:∀i,V (suf x k) (img (mul (suf x k)) ((wL (x.zA.length-k)).take i) (u.take i) v):=fun i=>
  jD (xH ok) _ _ (fun c hc=>hUs c (U5 hc)) hv
 have iK:∀i w,i<x.zA.length-k→V (suf x k) w→g x (p++w) ((k+i:Nat):Int)=ja (p++mul (suf x k) w (xN (x.zA.length-k) i)):=fun i w hi hw=>by obtain⟨q,w',h1,h2,h3,h4⟩:=zGC i k w (by omega) hw;have h5:=hg (k+i) (by omega) (by omega) (p++q) w' (by simp[hp,h2]) h3;rw[Ja,←h1]at h5;rw[h5,zAn hi,h1,show x.zA.length-k-(i+1)=x.zA.length-(k+i+1)from by omega,h4 w' _ h3 (hV1 (k+i) (by omega) (by omega)),Ja]
 unfold b_c;have aB:(zeros k++u).length=x.zA.length:=by simp[yC];omega
 have:=zW (body:=zT5 g x (zeros k++u)) (r:=p++mul (suf x k) v u) (fun j=>(p++img (mul (suf x k)) ((wL (x.zA.length-k)).take (j-k)) (u.take (j-k)) v,(j:Int))) x.zA.length (fun j hj=>by
  unfold zT5;simp only
  rw[aB,xD hj,zN];rcases Jk j k with hjk|hjk
  ·have e0:ixO (zeros k++u) (j:Int)=ja 0:=by
    rw[uC,Jm (by rw[yC];exact hjk)];simp[zeros,hjk]
   rw[e0,bs,show j-k=0 from by omega,show j+1-k=0 from by omega];rw[wA];unfold zT4;simp only
   rw[show decide ((0:Int)<0)=jd from rfl,zI];simp only
   rw[bs,zC (by omega) (by omega),bs,cs]
  ·obtain⟨i,rfl⟩:∃i,j=k+i:=⟨j-k,by omega⟩
   have hi:i<x.zA.length-k:=by omega
   have hr:=u7 i hi;rw[zL6 (by omega),bs,show k+i-k=i from by omega,show k+i+1-k=i+1 from by omega];rw[uX (S:=V (suf x k)) (fun w=>p++w) (fun w=>mul (suf x k) w (xN (x.zA.length-k) i)) (at0 u i) hr.1 (fun w hw=>xH ok hw (hUn i hi)) (fun w q hw hq=>by
    unfold zT4;simp only
    rw[jf hq,zN,iK i w hi hw,bs,zC (by omega) (by omega),bs,cs]) (fun w hw=>by
    unfold zT4;simp only
    rw[je (by omega),zI]) (hA i),bs,zC (by omega) (by omega),bs,cs]
   rw[zBz _ _ _ _ (by rw[zEJ];exact hi) (by omega),zHG hi]) (by
  unfold zT5;simp only
  rw[aB,xP,zI,Jr (by rw[zEJ];omega),Jr (by omega),zEG G.toMon _ _ hUs hv];have hn:=normal (suf x k) ok (fun Q hQ=>(zCA Q (zJj hQ ok) (zCE hQ hc)).toMon) u hu;rw[pb]at hn ⊢
  rw[hn])
 simp only[Jcp,K7,img]at this;rw[show((0:Nat):Int)=0 from rfl]at this;rw[this,bs]
theorem zFE{x:SPr}(h:Pres x):∀(d k:Nat),k+d=x.zA.length→wR (suf x k)→(∀m,2*d+1≤m→FTV x k (zQB m))
 |d,k,hk,hc=>fun m hm=>by
  obtain⟨m,rfl⟩:∃m',m=m'+1:=⟨m-1,by omega⟩;refine zSl h (by omega) hc fun j hj a8=>?_
  obtain⟨m,rfl⟩:∃m',m=m'+1:=⟨m-1,by omega⟩;have dn:wR (suf x (j+1)):=by
   have:=zEI hc (j+1-k)
   rwa [show k+(j+1-k)=j+1 from by omega]at this
  exact zL7 h a8 dn (zFE h (x.zA.length-(j+1)) (j+1) (by omega) dn m (by omega))
 termination_by d=>d
 decreasing_by omega
theorem zUZ{x:SPr}(h:Pres x){k:Nat}(hk:k≤x.zA.length)(hc:wR (suf x k)):FTV x k f_c:=fun p v u hp hv hu=>
 zBv (2*(x.zA.length-k)+1) fun m hm=>zFE h (x.zA.length-k) k (by omega) hc m hm p v u hp hv hu
theorem zVa{x:SPr}(h:Pres x){k:Nat}(hk:k<x.zA.length)(hc:wR (suf x (k+1))):FTG x k f_b:=fun p v hp hv=>
 zBv (2*(x.zA.length-k)) fun m hm=>by obtain⟨m,rfl⟩:∃m',m=m'+1:=⟨m-1,by omega⟩;exact zL7 h hk hc (zFE h (x.zA.length-(k+1)) (k+1) (by omega) hc m (by omega)) p v hp hv
end Go.Pl

namespace Go.Pl
open Go Go.Ab Go.Wk Go.Pc
abbrev fv(k:Nat)(v:Vec):Vec:=zeros k++v
section
variable {x:SPr} (h:Pres x) {k:Nat} (hk:k≤x.zA.length) (hc:wR (suf x k))
 include h hk
theorem wZ{v:Vec}(hv:V (suf x k) v):v.length=x.zA.length-k:=(zEe h.os (x.zA.length-k) k v (by omega) hv).1
theorem zCF{v:Vec}(hv:V (suf x k) v):(fv k v).length=x.zA.length:=by rw[J5,yC,wZ h hk hv];omega
theorem zPb:J1 x.zA.length (0:Int)=fv k (zeros (suf x k).length):=by
 have _:=h;rw[yQ];simp only[fv,zeros,Jw];congr 1;omega
 include hc
theorem zNv{i:Nat}(hi:i<x.zA.length-k):V (suf x k) (xN (x.zA.length-k) i):=by
 have _:=hc;have:=yQ x k;rw[←this]at hi ⊢
 exact zC8 (h.okAt hk) hi
theorem zL8{p:Vec}(hp:p.length=k){i:Nat}(hi:i<x.zA.length-k){w:Vec}(hw:V (suf x k) w):f_b x (p++w) ((k+i:Nat):Int)=ja (p++mul (suf x k) w (xN (x.zA.length-k) i)):=by
 obtain⟨q,w',h1,h2,h3,h4⟩:=zGC i k w (by omega) hw;have dn:wR (suf x (k+i+1)):=zEI hc (i+1);have h5:=zVa h (k:=k+i) (by omega) dn (p++q) w' (by simp[hp,h2]) h3;have h7:V (suf x (k+i)) (1::zeros (x.zA.length-(k+i+1))):=by
  have d9:k+i<x.zA.length:=by omega
  rw[yG d9];have:=(h.os.2 (k+i) d9).pos;refine⟨⟨by omega,by show 1<at0 x.zA (k+i);omega⟩,?_⟩;rw[←yQ];exact wP (h.okAt (by omega))
 rw[Ja,←h1]at h5;rw[h5,zAn hi,h1,show x.zA.length-k-(i+1)=x.zA.length-(k+i+1)from by omega,h4 w' _ h3 h7,Ja]
theorem zHH{a b:Vec}(ha:V (suf x k) a)(hb:V (suf x k) b):f_c x (fv k a) (fv k b)=ja (fv k (mul (suf x k) a b)):=
 zUZ h hk hc (zeros k) a b (yC k) ha hb
theorem zL9{a:Vec}(ha:V (suf x k) a):f_H (fv k a)=ja (fv k a):=by have _:=hc;have:=zCF h hk ha;have h6:=h.os.1;unfold f_H;rw[yN (by simp only[Ju];omega),bs,Ji]
theorem zDD{a b:Vec}(ha:V (suf x k) a)(hb:V (suf x k) b):zTB x (fv k a) (fv k b)=ja (fv k (mul (suf x k) a b)):=by unfold zTB;rw[zL9 h hk hc ha,bs,zHH h hk hc ha hb,bs]
theorem zNw{c:Vec}(pi:V (suf x k) c){e:Int}(e0:0≤e)(e1:e≤1000):zV8 x (fv k c) e=ja (fv k (pw (mul (suf x k)) (zeros (suf x k).length) c e.toNat)):=by
 have h6:=h.os.1;have ok:=h.okAt hk;unfold zV8;rw[zCF h hk pi,xM (by omega),bs,zPb h hk];rw[uX (S:=V (suf x k)) (body:=zMz x (fv k c) e) (fun u=>fv k u) (fun u=>mul (suf x k) u c) e e0 (fun u hu=>xH ok hu pi) (fun u i hu hi=>by
  unfold zMz;simp only
  rw[jf hi,zN,zHH h hk hc hu pi,bs,zC (by omega) (by omega),bs,cs]) (fun u hu=>by
  unfold zMz;simp only
  rw[je (by omega),zI]) (wP ok),bs]
 rfl
theorem zLA{v:Vec}(hv:V (suf x k) v):∃w,V (suf x k) w∧mul (suf x k) v w=zeros (suf x k).length∧f_I x (fv k v)=ja (fv k w):=by
 have h6:=h.os.1;have ok:=h.okAt hk;have G:=zHF h hk hc;have cR:=zCF h hk hv;have pb:=yQ x k;unfold f_I;rw[zL9 h hk hc hv,bs,cR,xM (by omega),bs,zPb h hk]
 let I:Nat→(List Int×List Int×Int)→Prop:=fun j s=> ∃A w,s=(fv k A,fv k w,(j:Int))∧V (suf x k) A∧V (suf x k) w∧mul (suf x k) v w=A∧ ∃A',A=zeros (j-k)++A'
 have key:=tE (body:=zTA x (fv k v)) (Q:=fun r=> ∃w,V (suf x k) w∧mul (suf x k) v w=zeros (suf x k).length∧r=fv k w) I x.zA.length (fun j s hj hI=>by
  obtain⟨A,w,rfl,hA,hw,hm,A',hA'⟩:=hI;left;unfold zTA;simp only
  rw[cR,xD hj,zN];rcases Jk j k with hjk|hjk
  ·have e0:ixO (fv k A) (j:Int)=ja 0:=by
    rw[uC,Jm (by rw[yC];exact hjk)];simp[zeros,hjk]
   rw[wA];unfold zQC;simp only
   rw[e0,bs,show((0:Int) != 0)=jd from rfl,zI];simp only
   rw[bs,zC (by omega) (by omega),bs,cs];exact⟨_,rfl,A,w,rfl,hA,hw,hm,A,by rw[show j+1-k=0 from by omega];rfl⟩
  ·obtain⟨i,rfl⟩:∃i,j=k+i:=⟨j-k,by omega⟩
   have hi:i<x.zA.length-k:=by omega
   rw[show k+i-k=i from by omega]at hA';have cB:=wZ h hk hA;obtain⟨a0,A',rfl⟩:∃p q,A'=p::q:=by
    cases A' with
    |nil=>rw[hA',J5,yC,Ju]at cB;omega
    |cons p q=>exact⟨p,q,rfl⟩
   have cv:=(h.os.2 (k+i) hj).pos;have inner:=tE (body:=zQC x (fv k A,fv k w,((k+i:Nat):Int))) (s:=(fv k A,fv k w))
    (Q:=fun r=> ∃B u,r=(fv k B,fv k u)∧V (suf x k) B∧V (suf x k) u∧mul (suf x k) v u=B∧ ∃B',B=zeros (i+1)++B')
    (fun q s=> ∃B u b B',s=(fv k B,fv k u)∧V (suf x k) B∧V (suf x k) u∧mul (suf x k) v u=B∧B=zeros i++b::B'∧(b=0∨b=a0+q)) 10 (fun q s hq hs=>by
     obtain⟨B,u,b,B',rfl,hB,hu,bH,pj,hb⟩:=hs;have hz:ixO (fv k B) ((k+i:Nat):Int)=ja b:=by rw[fv,zL6 (by rw[wZ h hk hB];exact hi),pj,at0,J2,J8 (by rw[yC];omega),yC,Kq];rfl
     unfold zQC;simp only
     rw[hz,bs]
     by_cases du:b=0
     ·subst du
      right;rw[show((0:Int) != 0)=jd from rfl,zI];exact⟨_,rfl,B,u,rfl,hB,hu,bH,B',by rw[pj,zBP]⟩
     ·left
      have hbq:b=a0+q:=by rcases hb with hb|hb;exact absurd hb du;exact hb
      rw[show(b != 0)=jc from by simpa using du,zN,zL8 h hk hc (yC k) hi hB,bs,zL8 h hk hc (yC k) hi hu,bs];have hU:=zNv h hk hc hi;obtain⟨q',v',h1,h2,h3,h4⟩:=zGC i k B (by omega) hB;have hqv:q'=zeros i∧v'=b::B':=by rw[pj]at h1;have:=List.append_inj h1 (by rw[yC,h2]);exact⟨this.1.symm,this.2.symm⟩
      obtain⟨rfl,rfl⟩:=hqv;have h7:V (suf x (k+i)) (1::zeros (x.zA.length-(k+i+1))):=by rw[yG hj];refine⟨⟨by omega,by show 1<at0 x.zA (k+i);omega⟩,?_⟩;rw[←yQ];exact wP (h.okAt (by omega))
      have h8:=h4 (b::B') _ h3 h7;rw[show x.zA.length-(k+i+1)=x.zA.length-k-(i+1)from by omega,←zAn hi,←h1,yG hj,yZ]at h8;refine⟨_,rfl,mul (suf x k) B (xN (x.zA.length-k) i),mul (suf x k) u (xN (x.zA.length-k) i),?_⟩;have pL:(lvl x (k+i)).o=at0 x.zA (k+i):=rfl;rw[pL]at h8
      by_cases hge:b+1≥at0 x.zA (k+i)
      ·rw[if_pos hge]at h8
       refine⟨_,_,rfl,xH ok hB hU,xH ok hu hU,?_,h8,?_⟩
       ·rw[←G.assoc hv hu hU,bH]
       ·left
        rw[yG hj]at h3;have:=h3.1.2;rw[pL]at this;omega
      ·rw[if_neg hge]at h8
       refine⟨_,_,rfl,xH ok hB hU,xH ok hu hU,?_,h8,?_⟩
       ·rw[←G.assoc hv hu hU,bH]
       ·right;omega) (fun s hs=>by
     obtain⟨B,u,b,B',rfl,hB,hu,bH,pj,hb⟩:=hs;have hz:ixO (fv k B) ((k+i:Nat):Int)=ja b:=by rw[fv,zL6 (by rw[wZ h hk hB];exact hi),pj,at0,J2,J8 (by rw[yC];omega),yC,Kq];rfl
     have hbr:=(zEe h.os (x.zA.length-k) k B (by omega) hB).2 i hi;have ha:=(zEe h.os (x.zA.length-k) k A (by omega) hA).2 i hi;have e1:at0 B i=b:=by rw[pj,at0,J2,J8 (by rw[yC];omega),yC,Kq];rfl
     have e2:at0 A i=a0:=by rw[hA',at0,J2,J8 (by rw[yC];omega),yC,Kq];rfl
     have du:b=0:=by omega
     subst du;unfold zQC;simp only
     rw[hz,bs,show((0:Int) != 0)=jd from rfl,zI];exact⟨_,rfl,B,u,rfl,hB,hu,bH,B',by rw[pj,zBP]⟩) ⟨A,w,a0,A',rfl,hA,hw,hm,hA',.inr (by omega)⟩
   obtain⟨r,r1,B,u,rfl,hB,hu,bH,B',pj⟩:=inner;rw[r1,bs,zC (by omega) (by omega),bs,cs];exact⟨_,rfl,B,u,rfl,hB,hu,bH,B',by rw[pj,show k+i+1-k=i+1 from by omega]⟩) (fun s hI=>by
  obtain⟨A,w,rfl,hA,hw,hm,A',hA'⟩:=hI;unfold zTA;simp only
  rw[cR,xP,zI];refine⟨_,rfl,w,hw,?_,rfl⟩;have cB:=wZ h hk hA;rw[hA',J5,yC]at cB;rw[hm,hA',Kd (l:=A') (by omega),J9,pb]) (s:=(fv k v,fv k (zeros (suf x k).length),0))
  ⟨v,_,rfl,hv,wP ok,G.oner hv,v,by rw[Jcp];rfl⟩
 obtain⟨r,r1,w,hw,hm,rfl⟩:=key;rw[r1,bs];exact⟨w,hw,hm,rfl⟩
theorem zCG{a b:Vec}(ha:V (suf x k) a)(hb:V (suf x k) b):∃c,V (suf x k) c∧mul (suf x k) b c=mul (suf x k) a b∧zTC x (fv k a) (fv k b)=ja (fv k c):=by
 have ok:=h.okAt hk;have G:=zHF h hk hc;obtain⟨w,hw,hm,h1⟩:=zLA h hk hc hb;have ac:=xH ok ha hb;refine⟨mul (suf x k) w (mul (suf x k) a b),xH ok hw ac,?_,?_⟩
 ·rw[←G.assoc hb hw ac,hm,G.onel ac]
 ·unfold zTC
  rw[h1,bs,zDD h hk hc ha hb,bs,zDD h hk hc hw ac,bs]
end
theorem zNx{a b:List Int}(h:a.length≤1000000):zOb a b=ja (a==b):=
 zOU (t:=fun u v=>ja (u==v)) (body:=zT9 a b) rfl (fun _=>rfl) (by omega) fun _ _ _ _=>rfl
end Go.Pl

namespace Go.Pl
open Go Go.Ab Go.Wk Go.Pc
theorem zLB{ρ:Type}{body:Int→Option (Int⊕(Unit⊕ρ))}(n i0:Nat)(hn:i0≤n)(P:Nat→Prop)(B:ρ→Prop)
  (h:∀i,i0≤i→i<n→(∀j,i0≤j→j<i→P j)→(body (i:Int)=ja (.inl ((i+1:Nat):Int))∧P i)∨(∃r,body (i:Int)=ja (.inr (.inr r))∧B r∧ ¬P i))
  (he:body (n:Int)=ja (.inr (.inl ()))):
  (zH body (i0:Int)=ja (.inl ())∧ ∀j,i0≤j→j<n→P j)∨ ∃r i,i0≤i∧i<n∧zH body (i0:Int)=ja (.inr r)∧B r∧ ¬P i:=by
 have key:∀k i,i0≤i→i+k=n→(∀j,i0≤j→j<i→P j)→(zH body (i:Int)=ja (.inl ())∧ ∀j,i0≤j→j<n→P j)∨ ∃r q,i0≤q∧q<n∧zH body (i:Int)=ja (.inr r)∧B r∧ ¬P q:=by
  intro k
  induction k with
  |zero=>
   intro i hi hk hp;obtain rfl:i=n:=by omega
   exact .inl ⟨by rw[wA,he],hp⟩
  |succ k ih=>
   intro i hi hk hp;rcases h i hi (by omega) hp with⟨h1,h2⟩|⟨r,h1,h2,h3⟩
   ·have:=ih (i+1) (by omega) (by omega) fun j a b=>by
     rcases Jk j i with c|c
     ·exact hp j a c
     ·rw[show j=i from by omega];exact h2
    rw[wA,h1];exact this
   ·exact .inr ⟨r,i,hi,by omega,by rw[wA,h1],h2,h3⟩
 exact key (n-i0) i0 (Jo _) (by omega) fun j a b=>by omega
theorem zHI{σ ρ:Type}{body:σ→Option (σ⊕ρ)}{Q:ρ→Prop}(I:σ→Prop)(m:σ→Nat)
  (h:∀s,I s→(∃s',body s=ja (.inl s')∧I s'∧m s'<m s)∨ ∃r,body s=ja (.inr r)∧Q r):∀(k:Nat)(s:σ),m s≤k→I s→ ∃r,zH body s=ja r∧Q r
 |k,s,hk,hs=>by
  rcases h s hs with⟨s',h1,h2,h3⟩|⟨r,h1,h2⟩
  ·cases k with
   |zero=>omega
   |succ k=>
    obtain⟨r,h4,h5⟩:=zHI I m h k s' (by omega) h2;exact⟨r,by rw[wA,h1];exact h4,h5⟩
  ·exact⟨r,by rw[wA,h1],h2⟩
theorem zXM{k:Nat}{a b:Vec}:(fv k a==fv k b)=jc↔a=b:=by rw[beq_iff_eq];exact⟨fun h=>List.append_cancel_left h,fun h=>by rw[h]⟩
theorem zCH{x:SPr}{v:List Int}{i k:Nat}(h:Exp x.zA v i)(hk:k≤i+1)(hn:k≤x.zA.length):v=fv k (v.drop k)∧V (suf x k) (v.drop k):=by
 have h1:=h.1.1;constructor
 ·apply Ld
  intro j;rw[fv,L5];simp only[zeros,Jh,Kw,Ko];split
  ·rename_i hj
   have h2:=h.2 j (by omega);rw[J3 (by omega)];rw[at0,J2,J3 (by omega)]at h2;simpa using h2
  ·rw[show k+(j-k)=j from by omega]
 ·refine zXL (x.zA.length-k) k _ (by omega) (by rw[Jz];omega) fun j hj=>?_
  have:=h.1.2 (k+j) (by omega);have e:at0 (v.drop k) j=at0 v (k+j):=by simp only[at0,J2,Ko]
  rw[e];exact this
structure LC (x:SPr) (k:Nat):Prop where
 c1:∀j,k+1≤j→j<x.zA.length→pw (mul (suf x (k+1))) (zeros (suf x (k+1)).length) ((lvl x k).cs.getD (j-(k+1)) []) (at0 x.zA j).toNat=sig (suf x (k+1)) (lvl x k) ((x.zT.getD j []).drop (k+1))
 c2:∀i,k+1≤i→i<x.zA.length→ ∀j,i+1≤j→j<x.zA.length→
  mul (suf x (k+1)) ((lvl x k).cs.getD (j-(k+1)) []) ((lvl x k).cs.getD (i-(k+1)) [])=mul (suf x (k+1)) ((lvl x k).cs.getD (i-(k+1)) []) (sig (suf x (k+1)) (lvl x k) (((x.zE.getD i []).getD (j-(i+1)) []).drop (k+1)))
 c3:sig (suf x (k+1)) (lvl x k) (lvl x k).w=(lvl x k).w
 c4:∀j,k+1≤j→j<x.zA.length→mul (suf x (k+1)) (lvl x k).w (iter (lvl x k).o.toNat (sig (suf x (k+1)) (lvl x k)) (xN (x.zA.length-(k+1)) (j-(k+1))))=mul (suf x (k+1)) (xN (x.zA.length-(k+1)) (j-(k+1))) (lvl x k).w
section
variable {x:SPr} (h:Pres x) {k:Nat} (hk:k<x.zA.length) (hc:wR (suf x (k+1)))
 include h hk
theorem kO{j:Nat}(h1:k+1≤j)(h2:j<x.zA.length):ixO x.zE (k:Int)=ja (x.zE.getD k [])∧ixO (x.zE.getD k []) ((j:Int)-(k:Int)-1)=ja (fv (k+1) ((lvl x k).cs.getD (j-(k+1)) []))∧V (suf x (k+1)) ((lvl x k).cs.getD (j-(k+1)) []):=by obtain⟨c,c1,c2,c3,c4⟩:=zEH h hk (i:=j-(k+1)) (by omega);rw[c4];refine⟨c1,?_,c3⟩;rw[show(j:Int)-(k:Int)-1=((j-(k+1):Nat):Int)from by omega];exact c2
theorem zSm{j:Nat}(h1:k+1≤j)(h2:j<x.zA.length):ixO x.zT (j:Int)=ja (fv (k+1) ((x.zT.getD j []).drop (k+1)))∧V (suf x (k+1)) ((x.zT.getD j []).drop (k+1)):=by have t1:=(h.tl j h2).1;have hl:=h.pl;obtain⟨e1,e2⟩:=zCH (k:=k+1) t1 (by omega) (by omega);exact⟨by rw[yX [] (by omega),←e1],e2⟩
theorem zSn{i j:Nat}(h1:k+1≤i)(h2:i+1≤j)(h3:j<x.zA.length):ixO x.zE (i:Int)=ja (x.zE.getD i [])∧ixO (x.zE.getD i []) ((j:Int)-(i:Int)-1)=ja (fv (k+1) (((x.zE.getD i []).getD (j-(i+1)) []).drop (k+1)))∧V (suf x (k+1)) (((x.zE.getD i []).getD (j-(i+1)) []).drop (k+1)):=by obtain⟨_,t2,t3⟩:=h.tl i (by omega);have hl:=h.cl;obtain⟨e1,e2⟩:=zCH (k:=k+1) (t3 (j-(i+1)) (by omega)) (by omega) (by omega);refine⟨yX [] (by omega),?_,e2⟩;rw[show(j:Int)-(i:Int)-1=((j-(i+1):Nat):Int)from by omega,yX [] (by omega),←e1]
theorem zXN:ixO x.zT (k:Int)=ja (fv (k+1) (lvl x k).w)∧V (suf x (k+1)) (lvl x k).w:=by have t1:=(h.tl k hk).1;have hl:=h.pl;obtain⟨e1,e2⟩:=zCH (k:=k+1) t1 (by omega) (by omega);exact⟨by rw[yX [] (by omega)];exact congrArg ja e1,e2⟩
theorem zW6{v:Vec}(hv:V (suf x (k+1)) v):V (suf x (k+1)) (sig (suf x (k+1)) (lvl x k) v):=by have ok0:=h.okAt (k:=k) (by omega);rw[yG hk]at ok0;exact zC9 ok0 hv
theorem zJl{j:Nat}(h1:k+1≤j)(h2:j<x.zA.length):zM0 (x.zA.length:Int) (j:Int)=ja (fv (k+1) (xN (x.zA.length-(k+1)) (j-(k+1)))):=by
 have h6:=h.os.1;unfold zM0;rw[xM (by omega),bs,uC,Kw,if_pos h2,bs,Je]
 congr 1
 rw[fv,zAn (by omega),←Ja];have e1:zeros (k+1)++zeros (j-(k+1))=zeros j:=by simp only[zeros,Jw];congr 1;omega
 have e2:J1 x.zA.length (0:Int)=zeros j++0::zeros (x.zA.length-(j+1)):=by simp only[zeros];rw[←Jq,Jw];congr 1;omega
 rw[e1,e2,zDC,show x.zA.length-(k+1)-(j-(k+1)+1)=x.zA.length-(j+1)from by omega]
theorem zQc{j:Nat}(h1:k+1≤j)(h2:j<x.zA.length):zYy (x.zA.length:Int) (j:Int)=ja (fv (k+1) (xN (x.zA.length-(k+1)) (j-(k+1)))):=zJl h hk h1 h2
 include hc
theorem zAo{v:Vec}(hv:V (suf x (k+1)) v):f_D x k (fv (k+1) v)=ja (fv (k+1) (sig (suf x (k+1)) (lvl x k) v)):=by
 have h6:=h.os.1;have ok:=h.okAt (k:=k+1) (by omega);have ok0:=h.okAt (k:=k) (by omega);rw[yG hk]at ok0;obtain⟨cR,dD⟩:=zEe h.os (x.zA.length-(k+1)) (k+1) v (by omega) hv;have gG:(lvl x k).cs.length=x.zA.length-(k+1):=by rw[ok0.2.2.1,yQ]
 have t2:=(h.tl k hk).2.1;have iT:=h.cl;have hA:∀i,V (suf x (k+1)) (img (mul (suf x (k+1))) ((lvl x k).cs.take i) (v.take i) (zeros (suf x (k+1)).length)):=fun i=>
  jD (xH ok) _ _ (fun c hc=>ok0.2.2.2.1 c (U5 hc)) (wP ok)
 unfold f_D;rw[zCF h (by omega) hv,xM (by omega),bs,yX [] (by omega),bs,zPb h (k:=k+1) (by omega)];have:=zW (body:=zT8 x k (fv (k+1) v) (x.zE.getD k [])) (r:=fv (k+1) (sig (suf x (k+1)) (lvl x k) v))
  (fun i=>(fv (k+1) (img (mul (suf x (k+1))) ((lvl x k).cs.take i) (v.take i) (zeros (suf x (k+1)).length)),(i:Int))) (x.zE.getD k []).length (fun i hi=>by
  have hr:=dD i (by omega);obtain⟨c,c1,c2,c3,c4⟩:=zEH h hk (i:=i) (by omega);unfold zT8;simp only
  rw[xD hi,zN,c2,bs,zC (by omega) (by omega),bs,zC (by omega) (by omega),bs,show(k:Int)+1+(i:Int)=((k+1+i:Nat):Int)from by omega,fv,zL6 (by omega),bs];rw[uX (S:=V (suf x (k+1))) (body:=zT7 x (zeros (k+1)++c) (at0 v i)) (fun u=>fv (k+1) u) (fun u=>mul (suf x (k+1)) u c) (at0 v i) hr.1 (fun u hu=>xH ok hu c3) (fun u q hu hq=>by
   unfold zT7;simp only
   rw[jf hq,zN,zHH h (by omega) hc hu c3,bs,zC (by omega) (by omega),bs,cs]) (fun u hu=>by
   unfold zT7;simp only
   rw[je (by omega),zI]) (hA i),bs,zC (by omega) (by omega),bs,cs]
  rw[zBz _ _ _ _ (by omega) (by omega),c4]) (by
  unfold zT8;simp only
  rw[xP,zI,Jr (by omega),Jr (by omega)];rfl)
 simp only[K7,img]at this;rw[show((0:Nat):Int)=0 from rfl]at this;rw[this,bs]
theorem zCI{a b:Vec}(ha:V (suf x (k+1)) a):IsB (zOb (fv (k+1) a) (fv (k+1) b)) (a=b):=by have _:=hc;have h6:=h.os.1;rw[zNx (by rw[zCF h (by omega) ha];omega)];exact IsB.of_bool zXM
theorem zLC{c:Vec}(pi:V (suf x (k+1)) c){e:Int}(e0:0≤e)(e1:e≤1000):zV4 x ((k+1:Nat):Int) (fv (k+1) c) e=ja (fv (k+1) (pw (mul (suf x (k+1))) (zeros (suf x (k+1)).length) c e.toNat)):=by
 have h6:=h.os.1;have ok:=h.okAt (k:=k+1) (by omega);have G:=zHF h (k:=k+1) (by omega) hc;have hA:=zPa h (k:=k+1) (by omega);have pwV:∀a,V (suf x (k+1)) (pw (mul (suf x (k+1))) (zeros (suf x (k+1)).length) c a):=fun a=>tN G.toMon pi a
 unfold zV4;rw[xM (by omega),bs,zPb h (k:=k+1) (by omega)];obtain⟨r,r1,r2⟩:=zHI (body:=zPC x ((k+1:Nat):Int)) (Q:=fun r=>r=fv (k+1) (pw (mul (suf x (k+1))) (zeros (suf x (k+1)).length) c e.toNat))
  (fun s=> ∃(m a q:Nat),s=((m:Int),fv (k+1) (pw (mul (suf x (k+1))) (zeros (suf x (k+1)).length) c a),fv (k+1) (pw (mul (suf x (k+1))) (zeros (suf x (k+1)).length) c q))∧a+q*m=e.toNat∧m≤1000) (fun s=>s.1.toNat) (fun s ⟨m,a,q,hs,he,hm⟩=>by
   subst hs;unfold zPC;simp only
   by_cases hm0:m=0
   ·right
    subst hm0;rw[show decide (((0:Nat):Int)> 0)=jd from rfl,zI];refine⟨_,rfl,?_⟩;rw[←he,Nat.mul_zero];rfl
   ·left
    have hr:vS (m:Int) 2=ja ((m%2:Nat):Int):=by unfold vS;rw[if_neg (by decide),L4 (by omega)];rfl
    have hq:uM (m:Int) 2=ja ((m/2:Nat):Int):=by unfold uM;rw[if_neg (by decide),Int.tdiv_eq_ediv_of_nonneg (by omega)];rw[zC (by omega) (by omega)];rfl
    have mr:=Ha m 2;have aS:mul (suf x (k+1)) (pw (mul (suf x (k+1))) (zeros (suf x (k+1)).length) c q) (pw (mul (suf x (k+1))) (zeros (suf x (k+1)).length) c q)=pw (mul (suf x (k+1))) (zeros (suf x (k+1)).length) c (q+q):=(zH7 G.toMon pi q q).symm;rw[jf (by omega),zN,hr,bs];rcases Nat.mod_two_eq_zero_or_one m with h2|h2
    ·rw[h2,show((((0:Nat):Int))==1)=jd from rfl,zI,hA _ _ (pwV q) (pwV q),bs,hq,bs,aS]
     refine⟨_,rfl,⟨m/2,a,q+q,rfl,?_,by omega⟩,by simp only;omega⟩;rw[←he];have:m=m/2+m/2:=by omega
     have e3:(q+q)*(m/2)=q*m:=by rw[Up,←Jb3,←this]
     omega
    ·rw[h2,show((((1:Nat):Int))==1)=jc from rfl,zN,hA _ _ (pwV a) (pwV q),bs,hA _ _ (pwV q) (pwV q),bs,hq,bs,aS,←zH7 G.toMon pi a q]
     refine⟨_,rfl,⟨m/2,a+q,q+q,rfl,?_,by omega⟩,by simp only;omega⟩;rw[←he];have:m=m/2+m/2+1:=by omega
     have e3:(q+q)*(m/2)+q=q*m:=by
      have e4:q*m=q*(m/2+m/2+1):=by rw[←this]
      rw[e4,Jb3,Jb3,Qt,Up]
     omega) 1000000 (e,fv (k+1) (zeros (suf x (k+1)).length),fv (k+1) c) (by simp only;omega) ⟨e.toNat,0,1,by rw[zSf G.toMon pi,show((e.toNat:Nat):Int)=e from by omega];rfl,by omega,by omega⟩
 rw[r1,bs,r2]
end
end Go.Pl

namespace Go.Pl
open Go Go.Ab Go.Wk Go.Pc
def yAe(o:Option xL)(P:Prop):Prop:=(o=ja (xL.mk 0 0 0 0)∧P)∨ ∃r,o=ja r∧r.Kind≠0∧ ¬P
theorem kb{a b c d:Int}(h:a≠0):(xL.mk a b c d).Kind≠0:=h
abbrev KB(r:xL):Prop:=r.Kind≠0
theorem zB0{o:Option Bool}{P:Prop}{bad:xL}{i:Nat}{g:Option (Int⊕(Unit⊕xL))}(h:IsB o P)(hi:i<9223372036854775807)(iX:bad.Kind≠0)
  (hg:g=o.bind fun r=>cond (!r) (ja (.inr (.inr bad))) ((rng ((i:Int)+1)).bind fun v=>ja (.inl v))):(g=ja (.inl ((i+1:Nat):Int))∧P)∨(∃r,g=ja (.inr (.inr r))∧KB r∧ ¬P):=by
 rcases jE h hi hg with h|⟨h1,h2⟩
 ·exact .inl h
 ·exact .inr ⟨bad,h1,iX,h2⟩
section
variable {x:SPr} (h:Pres x) {k:Nat} (hk:k<x.zA.length) (hc:wR (suf x (k+1)))
 include h hk hc
theorem zNy:yAe (f_n x k) (LC x k):=by
 have h6:=h.os.1;have ok:=h.okAt (k:=k+1) (by omega);have G:=zHF h (k:=k+1) (by omega) hc;obtain⟨w1,w2⟩:=zXN h hk;have pd:∀v,V (suf x (k+1)) v→V (suf x (k+1)) (sig (suf x (k+1)) (lvl x k) v):=fun v hv=>zW6 h hk hv
 unfold f_n;rw[zC (by omega) (by omega),bs,cs];rcases zLB (body:=zTD x k) x.zA.length (k+1) (by omega) (fun j=>pw (mul (suf x (k+1))) (zeros (suf x (k+1)).length) ((lvl x k).cs.getD (j-(k+1)) []) (at0 x.zA j).toNat=sig (suf x (k+1)) (lvl x k) ((x.zT.getD j []).drop (k+1))) KB (fun j h1 h2 _=>by
   obtain⟨c1,c2,c3⟩:=kO h hk h1 h2;obtain⟨p1,p2⟩:=zSm h hk h1 h2;have cv:=(h.os.2 j h2).pos;refine zB0 (zCI h hk hc (tN G.toMon c3 (at0 x.zA j).toNat)) (by omega) (bad:=xL.mk 1 k j 0) (kb (by decide)) ?_;unfold zTD;rw[xD h2,zN,c1,bs,zC (by omega) (by omega),bs,zC (by omega) (by omega),bs,c2,bs,yP h2,bs,zNw h (by omega) hc c3 (by omega) (by omega),bs,p1,bs,zAo h hk hc p2,bs]) (by
   unfold zTD;rw[xP,zI])with⟨g1,g2⟩|⟨r,j,j1,j2,g1,g2,g3⟩
 rotate_left
 ·rw[g1,bs]
  exact .inr ⟨r,rfl,g2,fun q=>g3 (q.c1 j j1 j2)⟩
 rw[g1,bs];simp only
 rw[bs];rcases zLB (body:=zTF x k) x.zA.length (k+1) (by omega) (fun i=> ∀j,i+1≤j→j<x.zA.length→
   mul (suf x (k+1)) ((lvl x k).cs.getD (j-(k+1)) []) ((lvl x k).cs.getD (i-(k+1)) [])=mul (suf x (k+1)) ((lvl x k).cs.getD (i-(k+1)) []) (sig (suf x (k+1)) (lvl x k) (((x.zE.getD i []).getD (j-(i+1)) []).drop (k+1)))) KB (fun i h1 h2 _=>by
   obtain⟨c1,c2,c3⟩:=kO h hk h1 h2;unfold zTF;rw[xD h2,zN,zC (by omega) (by omega),bs,cs];rcases zLB (body:=zTE x k i) x.zA.length (i+1) (by omega) (fun j=>mul (suf x (k+1)) ((lvl x k).cs.getD (j-(k+1)) []) ((lvl x k).cs.getD (i-(k+1)) [])=mul (suf x (k+1)) ((lvl x k).cs.getD (i-(k+1)) []) (sig (suf x (k+1)) (lvl x k) (((x.zE.getD i []).getD (j-(i+1)) []).drop (k+1)))) KB (fun j h3 h4 _=>by
     obtain⟨d1,d2,d3⟩:=kO h hk (j:=j) (by omega) h4;obtain⟨e1,e2,e3⟩:=zSn h hk h1 h3 h4;obtain⟨q,q1,q2,q3⟩:=zCG h (by omega) hc d3 c3;refine zB0 ((zCI h hk hc (b:=sig (suf x (k+1)) (lvl x k) (((x.zE.getD i []).getD (j-(i+1)) []).drop (k+1))) q1).iff (Q:=mul (suf x (k+1)) ((lvl x k).cs.getD (j-(k+1)) []) ((lvl x k).cs.getD (i-(k+1)) [])=mul (suf x (k+1)) ((lvl x k).cs.getD (i-(k+1)) []) (sig (suf x (k+1)) (lvl x k) (((x.zE.getD i []).getD (j-(i+1)) []).drop (k+1)))) ?_) (by omega) (bad:=xL.mk 2 k i j) (kb (by decide)) ?_
     ·exact⟨fun e=>by rw[←q2,e],fun e=>G.cancel_l c3 q1 (pd _ e3) (by rw[q2,e])⟩
     ·unfold zTE
      rw[xD h4,zN,d1,bs,zC (by omega) (by omega),bs,zC (by omega) (by omega),bs,d2,bs,bs,zC (by omega) (by omega),bs,zC (by omega) (by omega),bs,c2,bs,q3,bs,e1,bs,zC (by omega) (by omega),bs,zC (by omega) (by omega),bs,e2,bs,zAo h hk hc e3,bs]) (by
     unfold zTE;rw[xP,zI])with⟨g1,g2⟩|⟨r,j,j1,j2,g1,g2,g3⟩
   ·left
    rw[g1,bs];exact⟨rfl,g2⟩
   ·right
    rw[g1,bs];exact⟨r,rfl,g2,fun q=>g3 (q j j1 j2)⟩) (by
   unfold zTF;rw[xP,zI])with⟨k1,k2⟩|⟨r,j,j1,j2,k1,k2,k3⟩
 rotate_left
 ·rw[k1,bs]
  exact .inr ⟨r,rfl,k2,fun q=>k3 (q.c2 j j1 j2)⟩
 rw[k1,bs];simp only
 rw[w1,bs,zAo h hk hc w2,bs];rcases zCI h hk hc (b:=(lvl x k).w) (pd _ w2)with⟨m1,m2⟩|⟨m1,m2⟩
 rotate_left
 ·rw[m1,bs,Kg,zN]
  exact .inr ⟨_,rfl,kb (by decide),fun q=>m2 q.c3⟩
 rw[m1,bs,Ka,zI,bs];rcases zLB (body:=zTH x k (fv (k+1) (lvl x k).w)) x.zA.length (k+1) (by omega) (fun j=>mul (suf x (k+1)) (lvl x k).w (iter (lvl x k).o.toNat (sig (suf x (k+1)) (lvl x k)) (xN (x.zA.length-(k+1)) (j-(k+1))))=mul (suf x (k+1)) (xN (x.zA.length-(k+1)) (j-(k+1))) (lvl x k).w) KB (fun j h1 h2 _=>by
   have hU:=zNv h (k:=k+1) (by omega) hc (i:=j-(k+1)) (by omega);have cv:=(h.os.2 k hk).pos;obtain⟨q,q1,q2,q3⟩:=zCG h (k:=k+1) (by omega) hc hU w2;have e6:V (suf x (k+1)) (iter (lvl x k).o.toNat (sig (suf x (k+1)) (lvl x k)) (xN (x.zA.length-(k+1)) (j-(k+1)))):=vO pd _ hU;refine zB0 ((zCI h hk hc (b:=q) e6).iff ⟨fun e=>by rw[e,q2],fun e=>G.cancel_l w2 e6 q1 (by rw[e,q2])⟩) (by omega) (bad:=xL.mk 4 k j 0) (kb (by decide)) ?_;unfold zTH;rw[xD h2,zN,zJl h hk h1 h2,bs,yP hk,bs];rw[uX (S:=V (suf x (k+1))) (body:=zTG x k (at0 x.zA k)) (fun u=>fv (k+1) u) (sig (suf x (k+1)) (lvl x k)) (at0 x.zA k) (by omega) pd (fun u i hu hi=>by
    unfold zTG;simp only
    rw[jf hi,zN,zAo h hk hc hu,bs,zC (by omega) (by omega),bs,cs]) (fun u hu=>by
    unfold zTG;simp only
    rw[je (by omega),zI]) hU,bs,bs,q3,bs]
   rfl) (by
   unfold zTH;rw[xP,zI])with⟨n1,n2⟩|⟨r,j,j1,j2,n1,n2,n3⟩
 ·rw[n1,bs]
  exact .inl ⟨rfl,⟨g2,k2,m2,n2⟩⟩
 ·rw[n1,bs]
  exact .inr ⟨r,rfl,n2,fun q=>n3 (q.c4 j j1 j2)⟩
theorem zNz:yAe (f_o x k) (LC x k):=by
 have h6:=h.os.1;have ok:=h.okAt (k:=k+1) (by omega);have G:=zHF h (k:=k+1) (by omega) hc;obtain⟨w1,w2⟩:=zXN h hk;have hA:=zPa h (k:=k+1) (by omega);have hI:=zNt h hk;have pd:∀v,V (suf x (k+1)) v→V (suf x (k+1)) (sig (suf x (k+1)) (lvl x k) v):=fun v hv=>zW6 h hk hv
 have eqB:∀{a b:Vec},V (suf x (k+1)) a→IsB (zQ9 (fv (k+1) a) (fv (k+1) b)) (a=b):=fun ha=>zCI h hk hc ha
 unfold f_o;rw[zC (by omega) (by omega),bs,cs];rcases zLB (body:=zTu x k) x.zA.length (k+1) (by omega) (fun j=>pw (mul (suf x (k+1))) (zeros (suf x (k+1)).length) ((lvl x k).cs.getD (j-(k+1)) []) (at0 x.zA j).toNat=sig (suf x (k+1)) (lvl x k) ((x.zT.getD j []).drop (k+1))) KB (fun j h1 h2 _=>by
   obtain⟨c1,c2,c3⟩:=kO h hk h1 h2;obtain⟨p1,p2⟩:=zSm h hk h1 h2;have cv:=(h.os.2 j h2).pos;refine zB0 (eqB (tN G.toMon c3 (at0 x.zA j).toNat)) (by omega) (bad:=xL.mk 1 k j 0) (kb (by decide)) ?_;unfold zTu;rw[xD h2,zN,zC (by omega) (by omega),bs,cs,c1,bs,zC (by omega) (by omega),bs,zC (by omega) (by omega),bs,c2,bs,yP h2,bs,zLC h hk hc c3 (by omega) (by omega),bs,p1,bs,hI _ p2,bs]) (by
   unfold zTu;rw[xP,zI])with⟨g1,g2⟩|⟨r,j,j1,j2,g1,g2,g3⟩
 rotate_left
 ·rw[g1,bs]
  exact .inr ⟨r,rfl,g2,fun q=>g3 (q.c1 j j1 j2)⟩
 rw[g1,bs];simp only
 rw[bs];rcases zLB (body:=zTw x k) x.zA.length (k+1) (by omega) (fun i=> ∀j,i+1≤j→j<x.zA.length→
   mul (suf x (k+1)) ((lvl x k).cs.getD (j-(k+1)) []) ((lvl x k).cs.getD (i-(k+1)) [])=mul (suf x (k+1)) ((lvl x k).cs.getD (i-(k+1)) []) (sig (suf x (k+1)) (lvl x k) (((x.zE.getD i []).getD (j-(i+1)) []).drop (k+1)))) KB (fun i h1 h2 _=>by
   obtain⟨c1,c2,c3⟩:=kO h hk h1 h2;unfold zTw;rw[xD h2,zN,zC (by omega) (by omega),bs,cs];rcases zLB (body:=zTv x k i) x.zA.length (i+1) (by omega) (fun j=>mul (suf x (k+1)) ((lvl x k).cs.getD (j-(k+1)) []) ((lvl x k).cs.getD (i-(k+1)) [])=mul (suf x (k+1)) ((lvl x k).cs.getD (i-(k+1)) []) (sig (suf x (k+1)) (lvl x k) (((x.zE.getD i []).getD (j-(i+1)) []).drop (k+1)))) KB (fun j h3 h4 _=>by
     obtain⟨d1,d2,d3⟩:=kO h hk (j:=j) (by omega) h4;obtain⟨e1,e2,e3⟩:=zSn h hk h1 h3 h4;refine zB0 (eqB (xH ok d3 c3)) (by omega) (bad:=xL.mk 2 k i j) (kb (by decide)) ?_;unfold zTv;rw[xD h4,zN,d1,bs,zC (by omega) (by omega),bs,zC (by omega) (by omega),bs,c2,bs,bs,zC (by omega) (by omega),bs,zC (by omega) (by omega),bs,d2,bs,e1,bs,zC (by omega) (by omega),bs,zC (by omega) (by omega),bs,e2,bs,hI _ e3,bs,zC (by omega) (by omega),bs,cs,hA _ _ d3 c3,bs,bs,hA _ _ c3 (pd _ e3),bs]) (by
     unfold zTv;rw[xP,zI])with⟨g1,g2⟩|⟨r,j,j1,j2,g1,g2,g3⟩
   ·left
    rw[g1,bs];exact⟨rfl,g2⟩
   ·right
    rw[g1,bs];exact⟨r,rfl,g2,fun q=>g3 (q j j1 j2)⟩) (by
   unfold zTw;rw[xP,zI])with⟨k1,k2⟩|⟨r,j,j1,j2,k1,k2,k3⟩
 rotate_left
 ·rw[k1,bs]
  exact .inr ⟨r,rfl,k2,fun q=>k3 (q.c2 j j1 j2)⟩
 rw[k1,bs];simp only
 rw[w1,bs,hI _ w2,bs];rcases eqB (b:=(lvl x k).w) (pd _ w2)with⟨m1,m2⟩|⟨m1,m2⟩
 rotate_left
 ·rw[m1,bs,Kg,zN]
  exact .inr ⟨_,rfl,kb (by decide),fun q=>m2 q.c3⟩
 rw[m1,bs,Ka,zI,bs];rcases zLB (body:=zTy x k (fv (k+1) (lvl x k).w)) x.zA.length (k+1) (by omega) (fun j=>mul (suf x (k+1)) (lvl x k).w (iter (lvl x k).o.toNat (sig (suf x (k+1)) (lvl x k)) (xN (x.zA.length-(k+1)) (j-(k+1))))=mul (suf x (k+1)) (xN (x.zA.length-(k+1)) (j-(k+1))) (lvl x k).w) KB (fun j h1 h2 _=>by
   have hU:=zNv h (k:=k+1) (by omega) hc (i:=j-(k+1)) (by omega);have cv:=(h.os.2 k hk).pos;have e6:V (suf x (k+1)) (iter (lvl x k).o.toNat (sig (suf x (k+1)) (lvl x k)) (xN (x.zA.length-(k+1)) (j-(k+1)))):=vO pd _ hU;refine zB0 (eqB (xH ok w2 e6)) (by omega) (bad:=xL.mk 4 k j 0) (kb (by decide)) ?_;unfold zTy;rw[xD h2,zN,zQc h hk h1 h2,bs];rw[uX (S:=V (suf x (k+1))) (body:=zTx x k) (fun u=>fv (k+1) u) (sig (suf x (k+1)) (lvl x k)) (at0 x.zA k) (by omega) pd (fun u i hu hi=>by
    unfold zTx;simp only
    rw[yP hk,bs,jf hi,zN,hI _ hu,bs,zC (by omega) (by omega),bs,cs]) (fun u hu=>by
    unfold zTx;simp only
    rw[yP hk,bs,je (by omega),zI]) hU,bs,zC (by omega) (by omega),bs,cs]
   have ho:(lvl x k).o=at0 x.zA k:=rfl;rw[←ho,hA _ _ w2 e6,bs,bs,hA _ _ hU w2,bs]) (by
   unfold zTy;rw[xP,zI])with⟨n1,n2⟩|⟨r,j,j1,j2,n1,n2,n3⟩
 ·rw[n1,bs]
  exact .inl ⟨rfl,⟨g2,k2,m2,n2⟩⟩
 ·rw[n1,bs]
  exact .inr ⟨r,rfl,n2,fun q=>n3 (q.c4 j j1 j2)⟩
end
end Go.Pl

namespace Go.Pl
open Go Go.Ab Go.Wk Go.Pc
theorem zFF{m:Vec→Vec→Vec}:∀(i:Nat)(cs:List Vec)(w acc:Vec),i≤cs.length→img m cs (zeros i++w) acc=img m (cs.drop i) w acc
 |0,cs,w,acc,_=>rfl
 |i+1,[],w,acc,h=>by simp at h
 |i+1,c::cs,w,acc,h=>by show img m (c::cs) (0::(zeros i++w)) acc=_;simp only[img,Hv,iter,List.drop_succ_cons];exact zFF i cs w acc (by simpa using h)
theorem zHJ{x:SPr}{v:List Int}{j k:Nat}(h:Exp x.zA v j)(hj:j<x.zA.length)(hk:k≤j+1):v.drop k=zeros (j+1-k)++v.drop (j+1):=by
 have:=zAs h hj;have h2:v.drop k=(zeros (j+1)++v.drop (j+1)).drop k:=by rw[←this]
 rw[h2,Jbw,yC,show k-(j+1)=0 from by omega,Gb]
 congr 1
 simp only[zeros,H8]
section
variable {x:SPr} (h:zGr x) {k:Nat} (hk:k<x.zA.length)
 include h hk
theorem zAt:(lvl x k).cs.length=x.zA.length-(k+1):=by have ok0:=h.okAt (k:=k) (by omega);rw[yG hk]at ok0;rw[ok0.2.2.1,yQ]
theorem zVb{j:Nat}(h1:k+1≤j)(h2:j<x.zA.length):sig (suf x (k+1)) (lvl x k) ((x.zT.getD j []).drop (k+1))=img (mul (suf x (k+1))) ((lvl x k).cs.drop (j-k)) (lvl x j).w (zeros (suf x (k+1)).length):=by have t1:=(h.tl j h2).1;have gG:=zAt h hk;rw[zHJ t1 h2 (by omega),sig,zFF _ _ _ _ (by omega),show j+1-(k+1)=j-k from by omega];rfl
theorem zPc:∀(d i:Nat),k+1+i+d=x.zA.length→(Rel (mul (suf x (k+1))) (zeros (suf x (k+1)).length) (suf x (k+1+i)) ((lvl x k).cs.drop i)↔
  (∀j,k+1+i≤j→j<x.zA.length→pw (mul (suf x (k+1))) (zeros (suf x (k+1)).length) ((lvl x k).cs.getD (j-(k+1)) []) (at0 x.zA j).toNat=sig (suf x (k+1)) (lvl x k) ((x.zT.getD j []).drop (k+1)))∧
  (∀a,k+1+i≤a→a<x.zA.length→ ∀j,a+1≤j→j<x.zA.length→
   mul (suf x (k+1)) ((lvl x k).cs.getD (j-(k+1)) []) ((lvl x k).cs.getD (a-(k+1)) [])=mul (suf x (k+1)) ((lvl x k).cs.getD (a-(k+1)) []) (sig (suf x (k+1)) (lvl x k) (((x.zE.getD a []).getD (j-(a+1)) []).drop (k+1)))))
 |0,i,hi=>by have gG:=zAt h hk;rw[vV (x:=x) (k:=k+1+i) (by omega),Jba (show(lvl x k).cs.length≤i by omega)];simp only[Rel,true_iff];exact⟨fun j h1 h2=>by omega,fun a h1 h2=>by omega⟩
 |d+1,i,hi=>by
  have gG:=zAt h hk;have ih:=zPc d (i+1) (by omega);rw[show k+1+(i+1)=k+1+i+1 from by omega]at ih;have hj:k+1+i<x.zA.length:=by omega
  have hg:(lvl x k).cs.drop i=(lvl x k).cs.getD i []::(lvl x k).cs.drop (i+1):=by rw[Hc (by omega),J2,J3 (by omega)];rfl
  rw[yG hj,hg];simp only[Rel];rw[ih];have e1:=zVb h hk (j:=k+1+i) (by omega) hj;rw[show k+1+i-k=i+1 from by omega]at e1;have ho:(lvl x (k+1+i)).o=at0 x.zA (k+1+i):=rfl;rw[ho,←e1];have e2:∀j,k+1+i+1≤j→j<x.zA.length→ ∀dd,(lvl x (k+1+i)).cs[j-(k+1+i+1)]? =ja dd→img (mul (suf x (k+1))) ((lvl x k).cs.drop (i+1)) dd (zeros (suf x (k+1)).length)=sig (suf x (k+1)) (lvl x k) (((x.zE.getD (k+1+i) []).getD (j-(k+1+i+1)) []).drop (k+1)):=fun j h1 h2 dd hdd=>by
   obtain⟨_,t2,t3⟩:=h.tl (k+1+i) hj;have t:=t3 (j-(k+1+i+1)) (by omega);rw[zHJ t hj (by omega),sig,zFF _ _ _ _ (by omega),show k+1+i+1-(k+1)=i+1 from by omega]
   congr 1
   simp only[lvl,K1,Lf]at hdd;obtain⟨u,hu,rfl⟩:=hdd;rw[J2 (i:=j-(k+1+i+1)),hu];rfl
  have e3:∀j,k+1+i+1≤j→j<x.zA.length→((lvl x k).cs.drop (i+1))[j-(k+1+i+1)]? =ja ((lvl x k).cs.getD (j-(k+1)) [])∧ ∃dd,(lvl x (k+1+i)).cs[j-(k+1+i+1)]? =ja dd:=fun j h1 h2=>by
   have iT:=zAt h hj;refine⟨?_,?_⟩
   ·rw[Ko,show i+1+(j-(k+1+i+1))=j-(k+1)from by omega,J2,J3 (by omega)];rfl
   ·exact⟨_,J3 (by omega)⟩
  constructor
  ·rintro⟨a1,a2,a3,a4⟩
   refine⟨fun j h1 h2=>?_,fun a h1 h2 j h3 h4=>?_⟩
   ·rcases Jk (k+1+i) j with gz|hge
    ·exact a3 j (by omega) h2
    ·obtain rfl:j=k+1+i:=by omega
     rw[show k+1+i-(k+1)=i from by omega];exact a1
   ·rcases Jk (k+1+i) a with gz|hge
    ·exact a4 a (by omega) h2 j h3 h4
    ·obtain rfl:a=k+1+i:=by omega
     obtain⟨f1,dd,f2⟩:=e3 j (by omega) h4;have:=a2 _ _ _ f1 f2;rw[e2 j (by omega) h4 dd f2]at this;rw[show k+1+i-(k+1)=i from by omega];exact this
  ·rintro⟨a1,a2⟩
   refine⟨?_,fun kk c dd h1 h2=>?_,fun j h1 h2=>a1 j (by omega) h2,fun a h1 h2=>a2 a (by omega) h2⟩
   ·have:=a1 (k+1+i) (by omega) hj
    rw[show k+1+i-(k+1)=i from by omega]at this;exact this
   ·have gz:kk<x.zA.length-(k+1+i+1):=by
     have:=(Jb.1 h1).1;rw[Jz]at this;omega
    have g:=a2 (k+1+i) (by omega) hj (k+1+i+1+kk) (by omega) (by omega);obtain⟨f1,_⟩:=e3 (k+1+i+1+kk) (by omega) (by omega);rw[show k+1+i+1+kk-(k+1+i+1)=kk from by omega]at f1 g;rw[h1]at f1;have f1:=L8.inj f1;have g2:=e2 (k+1+i+1+kk) (by omega) (by omega) dd (by rw[show k+1+i+1+kk-(k+1+i+1)=kk from by omega];exact h2);rw[show k+1+i+1+kk-(k+1+i+1)=kk from by omega]at g2;rw[g2,f1];rw[show k+1+i-(k+1)=i from by omega]at g;exact g
theorem zA6:wR (suf x k)↔wR (suf x (k+1))∧LC x k:=by
 have hr:=zPc h hk (x.zA.length-(k+1)) 0 (by omega);have hl:=yQ x (k+1);rw[Gb,Hy]at hr;rw[yG hk];simp only[wR];rw[hr];constructor
 ·rintro⟨a,⟨b1,b2⟩,c,d⟩
  refine⟨a,⟨b1,b2,c,fun j h1 h2=>?_⟩⟩;have:=d (j-(k+1)) (by omega)
  rwa [hl]at this
 ·rintro⟨a,b⟩
  refine⟨a,⟨b.c1,b.c2⟩,b.c3,fun j hj=>?_⟩;have:=b.c4 (k+1+j) (by omega) (by omega);rw[show k+1+j-(k+1)=j from by omega]at this
  rwa [hl]
end
theorem zB1{x:SPr}(h:wR (suf x 0))(k:Nat):wR (suf x k):=by
 have:=zEI h k
 rwa [Jg]at this
def zA7(x:SPr):Prop:=Pres x∧wR (suf x 0)∧zCC x
theorem zAP{x:SPr}(hl:x.zA.length≤1048576):IsB (zTI x) (zA7 x):=by
 unfold zTI;rcases zDx hl with⟨h1,h2⟩|⟨h1,h2⟩
 ·have h6:=h2.os.1
  rw[h1,bs,zN];unfold zY5;obtain⟨r,r1,r2⟩:=tE (body:=zM1 x) (Q:=fun r=> ∃s:Nat,r=(s:Int)∧wR (suf x s)∧(s=0∨ ¬wR (suf x (s-1)))) (fun i s=>i≤x.zA.length∧s=((x.zA.length-i:Nat):Int)∧wR (suf x (x.zA.length-i))) x.zA.length (fun i s hi ⟨_,hs,gN⟩=>by
    subst hs;have hk:x.zA.length-i-1<x.zA.length:=by omega
    have e9:x.zA.length-(i+1)=x.zA.length-i-1:=by omega
    rw[e9];have e8:i+1≤x.zA.length:=by omega
    rw[show x.zA.length-i=x.zA.length-i-1+1 from by omega]at gN ⊢
    have bK:=zNy h2.toPres hk gN;have fI:=zA6 h2.toPres.w hk
    generalize x.zA.length-i-1=k at*
    unfold zM1;rw[jf (by omega),zN,zC (by omega) (by omega),bs,show(((k+1:Nat):Int)-1)=(k:Int)from by omega];rcases bK with⟨g1,g2⟩|⟨r,g1,g2,g3⟩
    ·left
     rw[g1,bs];simp only[beq_self_eq_true,Bool.and_true];rw[zN,bs];exact⟨_,rfl,e8,rfl,fI.2 ⟨gN,g2⟩⟩
    ·right
     rw[g1,bs,show(r.Kind==0)=jd from by simpa using g2,Jcu,zI];refine⟨_,rfl,k+1,rfl,gN,.inr fun q=>g3 (fI.1 q).2⟩) (fun s ⟨_,hs,gN⟩=>by
    rw[Kq]at hs gN;subst hs;unfold zM1;rw[show decide (((0:Nat):Int)> 0)=jd from rfl,zI];exact⟨_,rfl,0,rfl,gN,.inl rfl⟩) (s:=(x.zA.length:Int)) ⟨by omega,by rw[Ud],by rw[Ud,vV (by omega)];simp only[wR]⟩
  obtain⟨s,rfl,gN,hs⟩:=r2;rw[r1,bs,bs];cases s with
  |zero=>exact .inl ⟨rfl,h2.toPres,gN,h2⟩
  |succ s=>
   refine .inr ⟨?_,fun q=>?_⟩
   ·congr 1
   ·rcases hs with hs|hs
    ·omega
    ·exact hs (zB1 q.2.1 _)
 ·rw[h1,bs,zI]
  exact .inr ⟨rfl,fun q=>h2 q.2.2⟩
theorem zHK{x:SPr}(hl:x.zA.length≤1048576):IsB (zTz x) (zA7 x):=by
 unfold zTz;rcases zDy hl with⟨h1,h2⟩|⟨h1,h2⟩
 ·have h6:=h2.os.1
  rw[h1,bs,zN];unfold zY0 zYz;rw[zC (by omega) (by omega),bs];obtain⟨r,r1,r2⟩:=tE (body:=zMu x) (Q:=fun r=>(r=.inl ()∧wR (suf x 0))∨ ∃f,r=.inr f∧f.Kind≠0∧ ¬wR (suf x 0)) (fun i s=>i≤x.zA.length∧s=((x.zA.length-i:Nat):Int)-1∧wR (suf x (x.zA.length-i))) x.zA.length (fun i s hi ⟨_,hs,gN⟩=>by
    subst hs;have hk:x.zA.length-i-1<x.zA.length:=by omega
    have e9:x.zA.length-(i+1)=x.zA.length-i-1:=by omega
    rw[e9];have e8:i+1≤x.zA.length:=by omega
    rw[show x.zA.length-i=x.zA.length-i-1+1 from by omega]at gN ⊢
    have bK:=zNz h2.toPres hk gN;have fI:=zA6 h2.toPres.w hk
    generalize x.zA.length-i-1=k at*
    unfold zMu;rw[show(((k+1:Nat):Int)-1)=(k:Int)from by omega,jf (by omega),zN];rcases bK with⟨g1,g2⟩|⟨r,g1,g2,g3⟩
    ·left
     rw[g1,bs];simp only
     rw[show((0:Int) != 0)=jd from rfl,zI,zC (by omega) (by omega),bs];exact⟨_,rfl,e8,rfl,fI.2 ⟨gN,g2⟩⟩
    ·right
     rw[g1,bs,show(r.Kind != 0)=jc from by simpa using g2,zN];exact⟨_,rfl,.inr ⟨r,rfl,g2,fun q=>g3 (fI.1 (zB1 q _)).2⟩⟩) (fun s ⟨_,hs,gN⟩=>by
    rw[Kq]at hs gN;subst hs;unfold zMu;rw[show decide (((0:Nat):Int)-1≥0)=jd from rfl,zI];exact⟨_,rfl,.inl ⟨rfl,gN⟩⟩) (s:=(x.zA.length:Int)-1) ⟨by omega,by rw[Ud],by rw[Ud,vV (by omega)];simp only[wR]⟩
  rw[r1,bs];rcases r2 with⟨rfl,q⟩|⟨f,rfl,g1,g2⟩
  ·exact .inl ⟨rfl,h2.toPres,q,h2⟩
  ·simp only
   rw[bs,show(f.Kind==0)=jd from by simpa using g1];exact .inr ⟨rfl,fun q=>g2 q.2.1⟩
 ·rw[h1,bs,zI]
  exact .inr ⟨rfl,fun q=>h2 q.2.2⟩
end Go.Pl

namespace Go.Pl
open Go Go.Ab Go.Wk
abbrev Mx:=List (List Int)
def S:Nat→(Nat→Int)→Int
 |0,_=>0
 |n+1,f=>S n f+f n
theorem xI{n:Nat}{f g:Nat→Int}(h:∀i,i<n→f i=g i):S n f=S n g:=by
 induction n with
 |zero=>rfl
 |succ n ih=>simp only[S];rw[ih fun i hi=>h i (by omega),h n (by omega)]
theorem kP{p:Int}{f g:Nat→Int}:∀{n:Nat},(∀i,i<n→f i%p=g i%p)→S n f%p=S n g%p
 |0,_=>rfl
 |n+1,h=>by simp only[S];rw[Ke,kP (n:=n) fun i hi=>h i (by omega),h n (by omega),←Ke]
theorem qH:∀n:Nat,S n (fun _=>0)=0
 |0=>rfl
 |n+1=>by simp only[S,qH n];rfl
theorem zCJ{f g:Nat→Int}:∀n:Nat,S n (fun i=>f i+g i)=S n f+S n g
 |0=>rfl
 |n+1=>by simp only[S,zCJ n];omega
theorem zLD{f:Nat→Int}(a:Int):∀n:Nat,S n (fun i=>f i*a)=S n f*a
 |0=>by simp[S]
 |n+1=>by simp only[S,zLD a n,Qj]
theorem zCK{f:Nat→Int}(a:Int):∀n:Nat,S n (fun i=>a*f i)=a*S n f
 |0=>by simp[S]
 |n+1=>by simp only[S,zCK a n,Jac]
theorem zHL{f:Nat→Nat→Int}(m:Nat):∀n:Nat,S n (fun i=>S m (fun j=>f i j))=S m (fun j=>S n (fun i=>f i j))
 |0=>by simp only[S];exact(qH m).symm
 |n+1=>by simp only[S];rw[zHL m n,zCJ]
theorem zAe{f:Nat→Int}{k:Nat}:∀{n:Nat},k<n→(∀i,i<n→i≠k→f i=0)→S n f=f k
 |0,h,_=>by omega
 |n+1,h,hz=>by
  simp only[S]
  by_cases hk:k=n
  ·subst hk
   rw[xI (g:=fun _=>0) fun i hi=>hz i (by omega) (by omega),qH];omega
  ·rw[zAe (n:=n) (by omega) fun i hi=>hz i (by omega),hz n (by omega) (by omega)];omega
def mkv(D:Nat)(f:Nat→Int):List Int:=(Jl D).map f
theorem yB(D:Nat)(f:Nat→Int):(mkv D f).length=D:=by simp[mkv]
theorem zDi{D:Nat}{f:Nat→Int}{i:Nat}(h:i<D):(mkv D f)[i]? =ja (f i):=by simp[mkv,h]
theorem yE{D:Nat}{f:Nat→Int}{i:Nat}(h:i<D):at0 (mkv D f) i=f i:=by rw[at0,J2,zDi h];rfl
theorem zX{D:Nat}{f g:Nat→Int}(h:∀i,i<D→f i=g i):mkv D f=mkv D g:=by unfold mkv;apply Qp;intro i hi;exact h i (by simpa using hi)
theorem jF{D:Nat}{f:Nat→Int}{j:Nat}{a:Int}:(mkv D f).set j a=mkv D (fun i=>if i=j then a else f i):=by
 apply Ld;intro i;rw[Jc7,yB]
 by_cases hi:i<D
 ·by_cases gP:j=i
  ·subst gP;rw[if_pos rfl,if_pos hi,zDi hi,if_pos rfl]
  ·rw[if_neg gP,zDi hi,zDi hi,if_neg fun h=>gP h.symm]
 ·have h1:∀g:Nat→Int,(mkv D g)[i]? =jb:=fun g=>K0 (by rw[yB];omega)
  rw[h1,h1]
  by_cases gP:j=i
  ·subst gP;rw[if_pos rfl,if_neg hi]
  ·rw[if_neg gP]
theorem vX{v:List Int}{D:Nat}(h:v.length=D):v=mkv D (at0 v):=by
 apply Ld;intro i
 by_cases hi:i<D
 ·rw[zDi hi,at0,J2,J3 (by omega)];rfl
 ·rw[K0 (by omega),K0 (by rw[yB];omega)]
theorem uS(D:Nat):J1 D (0:Int)=mkv D (fun _=>0):=by
 apply Ld;intro i
 by_cases hi:i<D
 ·rw[zDi hi];simp[hi]
 ·rw[K0 (by simp;omega),K0 (by rw[yB];omega)]
abbrev ent(B:Mx)(l j:Nat):Int:=at0 (B.getD l []) j
def wG(p:Int)(D:Nat)(r:List Int)(B:Mx):List Int:=mkv D fun j=>S D (fun l=>at0 r l*ent B l j)%p
def PM(p:Int)(D:Nat)(A B:Mx):Mx:=A.map fun r=>wG p D r B
def idM(D:Nat):Mx:=(Jl D).map fun i=>mkv D fun j=>if j=i then 1 else 0
def Row(p:Int)(D:Nat)(r:List Int):Prop:=r.length=D∧ ∀i,i<D→0≤at0 r i∧at0 r i≤p-1
def Mat(p:Int)(D:Nat)(A:Mx):Prop:=A.length=D∧ ∀i,i<D→Row p D (A.getD i [])
theorem zBQ{p:Int}{D i:Nat}{A B:Mx}(h:i<A.length):(PM p D A B).getD i []=wG p D (A.getD i []) B:=by simp only[PM,J2,K1,J3 h];rfl
theorem tF{p:Int}{D:Nat}{A B:Mx}:(PM p D A B).length=A.length:=by simp[PM]
theorem zHM{p:Int}{D:Nat}{A B:Mx}(hp:0<p)(hA:A.length=D):Mat p D (PM p D A B):=by refine⟨by rw[tF,hA],fun i hi=>?_⟩;rw[zBQ (by omega)];refine⟨by rw[wG,yB],fun j hj=>?_⟩;rw[wG,yE hj];have h1:=L7 (S D fun l=>at0 (A.getD i []) l*ent B l j) (show p≠0 by omega);have h2:=Kr (S D fun l=>at0 (A.getD i []) l*ent B l j) hp;omega
theorem zN0{p:Int}{D i j:Nat}{A B:Mx}(hA:A.length=D)(hi:i<D)(hj:j<D):ent (PM p D A B) i j=S D (fun l=>ent A i l*ent B l j)%p:=by rw[ent,zBQ (by omega),wG,yE hj]
theorem zHN{D:Nat}{A B:Mx}(hA:A.length=D)(hB:B.length=D)(h:∀i,i<D→A.getD i []=B.getD i []):A=B:=by
 apply Ld;intro i
 by_cases hi:i<D
 ·have:=h i hi
  rw[J2,J2,J3 (by omega),J3 (by omega)]at this;rw[J3 (by omega),J3 (by omega)];exact congrArg ja this
 ·rw[K0 (by omega),K0 (by omega)]
theorem zLE{p:Int}{D:Nat}{A B C:Mx}(hA:A.length=D)(hB:B.length=D):PM p D (PM p D A B) C=PM p D A (PM p D B C):=by
 refine zHN (by rw[tF,tF,hA]) (by rw[tF,hA]) fun i hi=>?_
 rw[zBQ (A:=PM p D A B) (by rw[tF];omega),zBQ (A:=A) (B:=PM p D B C) (by omega)];unfold wG;refine zX fun j hj=>?_
 have e1:S D (fun l=>at0 ((PM p D A B).getD i []) l*ent C l j)%p=S D (fun l=>S D (fun q=>ent A i q*ent B q l)*ent C l j)%p:=kP fun l hl=>by
  have:=zN0 (p:=p) (B:=B) hA hi hl;simp only[ent]at this ⊢
  rw[this,Jx,Kc,←Jx]
 have e2:S D (fun l=>at0 (A.getD i []) l*ent (PM p D B C) l j)%p=S D (fun q=>ent A i q*S D (fun l=>ent B q l*ent C l j))%p:=kP fun q hq=>by rw[zN0 hB hq hj,Jx,Kc,←Jx]
 rw[e1,e2]
 congr 1
 have e3:(fun l=>S D (fun q=>ent A i q*ent B q l)*ent C l j)=fun l=>S D (fun q=>ent A i q*ent B q l*ent C l j):=funext fun l=>(zLD _ _).symm
 have e4:(fun q=>ent A i q*S D (fun l=>ent B q l*ent C l j))=fun q=>S D (fun l=>ent A i q*ent B q l*ent C l j):=funext fun q=>by rw[←zCK];exact xI fun l _=>by rw[Hi]
 rw[e3,e4];exact zHL D D
theorem uJ(D:Nat):(idM D).length=D:=by simp[idM]
theorem zDj{D i:Nat}(h:i<D):(idM D).getD i []=mkv D fun j=>if j=i then 1 else 0:=by simp[idM,J2,h]
theorem qR{p:Int}{D:Nat}(hp:2≤p):Mat p D (idM D):=by refine⟨uJ D,fun i hi=>?_⟩;rw[zDj hi];refine⟨yB _ _,fun j hj=>?_⟩;rw[yE hj];split<;>omega
theorem sX{p a:Int}(h:0≤a∧a≤p-1):a%p=a:=Kj h.1 (by omega)
theorem zEK{p:Int}{D:Nat}{B:Mx}(hB:Mat p D B):PM p D (idM D) B=B:=by
 refine zHN (by rw[tF,uJ]) hB.1 fun i hi=>?_
 rw[zBQ (by rw[uJ];exact hi),zDj hi,wG];obtain⟨h1,h2⟩:=hB.2 i hi;refine Eq.trans (zX fun j hj=>?_) (vX h1).symm;rw[zAe (k:=i) hi fun l hl gf=>by rw[yE hl,if_neg gf,Ue],yE hi,if_pos rfl,Jaa];exact sX (h2 j hj)
theorem zCL{p:Int}{D:Nat}{A:Mx}(hA:Mat p D A):PM p D A (idM D)=A:=by
 refine zHN (by rw[tF,hA.1]) hA.1 fun i hi=>?_
 rw[zBQ (by rw[hA.1];exact hi),wG];obtain⟨h1,h2⟩:=hA.2 i hi;refine Eq.trans (zX fun j hj=>?_) (vX h1).symm;rw[zAe (k:=j) hj fun l hl gf=>by rw[ent,zDj hl,yE hj,if_neg (fun h=>gf h.symm),Le],ent,zDj hj,yE hj,if_pos rfl,Hq];exact sX (h2 j hj)
theorem zSo{p:Int}{D i j:Nat}{B:Mx}(hB:Mat p D B)(hi:i<D)(hj:j<D):ixO B (i:Int)=ja (B.getD i [])∧ixO (B.getD i []) (j:Int)=ja (ent B i j)∧(B.getD i []).length=D∧0≤ent B i j∧ent B i j≤p-1:=by obtain⟨h1,h2⟩:=hB.2 i hi;have:=hB.1;exact⟨yX [] (by omega),yP (by omega),h1,h2 j hj⟩
def acc(p:Int)(D i:Nat)(r:List Int)(B:Mx):List Int:=mkv D fun j=>S i (fun l=>at0 r l*ent B l j)%p
def zDz(p:Int)(D i k:Nat)(r:List Int)(B:Mx):List Int:=mkv D fun j=>if j<k then S (i+1) (fun l=>at0 r l*ent B l j)%p else S i (fun l=>at0 r l*ent B l j)%p
theorem zJm{p:Int}{D i:Nat}{r:List Int}{B:Mx}:zDz p D i 0 r B=acc p D i r B:=zX fun j _=>by rw[if_neg (by omega)]
theorem zJn{p:Int}{D i:Nat}{r:List Int}{B:Mx}:zDz p D i D r B=acc p D (i+1) r B:=zX fun j hj=>by rw[if_pos hj]
theorem zLF{p:Int}{D i k:Nat}{r:List Int}{B:Mx}(hk:k<D){a:Int}(ha:a=(at0 (zDz p D i k r B) k+at0 r i*ent B i k)%p):(zDz p D i k r B).set k a=zDz p D i (k+1) r B:=by
 subst ha;simp only[zDz];rw[jF,yE hk,if_neg (by omega)];refine zX fun j hj=>?_
 by_cases hjk:j=k
 ·subst hjk
  rw[if_pos rfl,if_pos (by omega)];simp only[S];rw[Int.emod_add_emod]
 ·rw[if_neg hjk]
  by_cases gz:j<k
  ·rw[if_pos gz,if_pos (by omega)]
  ·rw[if_neg gz,if_neg (by omega)]
theorem zLG{p:Int}{D i k j:Nat}{r:List Int}{B:Mx}(hp:0<p)(hj:j<D):0≤at0 (zDz p D i k r B) j∧at0 (zDz p D i k r B) j≤p-1:=by
 rw[zDz,yE hj];split
 ·have h1:=L7 (S (i+1) fun l=>at0 r l*ent B l j) (show p≠0 by omega)
  have h2:=Kr (S (i+1) fun l=>at0 r l*ent B l j) hp;omega
 ·have h1:=L7 (S i fun l=>at0 r l*ent B l j) (show p≠0 by omega)
  have h2:=Kr (S i fun l=>at0 r l*ent B l j) hp;omega
theorem zHO{p:Int}{D i k:Nat}{r:List Int}{B:Mx}:(zDz p D i k r B).length=D:=yB _ _
theorem zPd{p:Int}{D i k j:Nat}{r:List Int}{B:Mx}(hj:j<D):ixO (zDz p D i k r B) (j:Int)=ja (at0 (zDz p D i k r B) j):=yP (by rw[zHO];exact hj)
theorem zLH{p:Int}{D:Nat}{r:List Int}{B:Mx}:J1 D (0:Int)=acc p D 0 r B:=by rw[uS];exact zX fun j _=>by simp[S]
theorem zFG{a b p:Int}(hp:p≤7)(ha:0≤a∧a≤p-1)(hb:0≤b∧b≤p-1):0≤a*b∧a*b≤36:=by have h1:0≤a*b:=U3 ha.1 hb.1;have h2:a*b≤6*6:=Lu (by omega) (by omega) hb.1 (by omega);omega
section
variable {p:Int}{D:Nat} (hp:Prime p) (hD:D≤8)
 include hp hD
theorem zHP{r:List Int}{B:Mx}(hr:Row p D r)(hB:Mat p D B):f_u p r B (D:Int)=ja (wG p D r B):=by
 have h7:=hp.pos;have dV:=hB.1;have cd:=hr.1;unfold f_u;rw[xM (by omega),bs,zLH (p:=p) (r:=r) (B:=B)];have:=zW (body:=zMx p r B) (r:=acc p D D r B) (fun i=>(acc p D i r B,(i:Int))) D (fun i hi=>by
  have aP:=hr.2 i hi;unfold zMx;simp only
  rw[cd,dV,xD hi,zN,zN];have inner:=zW (body:=zMw p r B (acc p D i r B,(i:Int))) (r:=acc p D (i+1) r B) (fun k=>(zDz p D i k r B,(k:Int))) D (fun k hk=>by
   obtain⟨b1,b2,b3,b4⟩:=zSo hB hi hk;have ha:=zLG (p:=p) (i:=i) (k:=k) (r:=r) (B:=B) (by omega) hk;have hm:=zFG (by omega) aP b4;unfold zMw;simp only
   rw[zHO,xD hk,zN,b1,bs,b3,xD hk,zN,zPd hk,bs,yP (by omega),bs,bs,b2,bs,zC (by omega) (by omega),bs,zC (by omega) (by omega),bs];have bg:vS (at0 (zDz p D i k r B) k+at0 r i*ent B i k) p=ja ((at0 (zDz p D i k r B) k+at0 r i*ent B i k)%p):=by unfold vS;rw[if_neg (by omega),L4 (by omega)]
   rw[bg,bs,bs,zC (by omega) (by omega),bs,cs,Je,zLF hk rfl]) (by
   unfold zMw;simp only
   rw[zHO,xP,zI,zJn])
  rw[zJm,show((0:Nat):Int)=0 from rfl]at inner;rw[inner,bs,zC (by omega) (by omega),bs,cs]) (by
  unfold zMx;simp only
  rw[cd,xP,zI])
 rw[show((0:Nat):Int)=0 from rfl]at this;rw[this,bs];rfl
theorem zJY{a:Int}(h0:0≤a)(_h1:a≤1000):zK9 a p=ja (a%p):=by
 have _:=hD;have h7:=hp.pos;have e1:=L7 a (show p≠0 by omega);have e2:=Kr a (show 0<p by omega);unfold zK9 vS;rw[if_neg (by omega),bs,L4 h0,zC (by omega) (by omega),bs,if_neg (by omega),bs,L4 (by omega)]
 congr 1
 rw[Us,Kc]
theorem zFH{i:Nat}{r:List Int}{B:Mx}(hi:i<D)(hr:Row p D r)(hB:Mat p D B):f_s (acc p D i r B) (B.getD i []) (at0 r i) p=ja (acc p D (i+1) r B):=by
 have h7:=hp.pos;have aP:=hr.2 i hi;unfold f_s;have hl:(acc p D i r B).length=D:=yB _ _;have inner:=zW (body:=zM3 (acc p D i r B) (B.getD i []) (at0 r i) p) (r:=acc p D (i+1) r B) (fun k=>(zDz p D i k r B,(k:Int))) D (fun k hk=>by
  obtain⟨b1,b2,b3,b4⟩:=zSo hB hi hk;have ha:=zLG (p:=p) (i:=i) (k:=k) (r:=r) (B:=B) (by omega) hk;have hm:=zFG (by omega) aP b4;unfold zM3;simp only
  rw[hl,xD hk,zN,zPd hk,bs,b2,bs,zC (by omega) (by omega),bs,zC (by omega) (by omega),bs,zJY hp hD (by omega) (by omega),bs,bs,zC (by omega) (by omega),bs,cs,Je,zLF hk rfl]) (by
  unfold zM3;simp only
  rw[hl,xP,zI,zJn])
 rw[zJm,show((0:Nat):Int)=0 from rfl]at inner;rw[inner,bs]
theorem zB2{r:List Int}{B:Mx}{q:Int}(hr:Row p D r)(hB:Mat p D B)(hq:q=(D:Int)):zTQ r (zK.mk p q B)=ja (wG p D r B):=by
 subst hq;have cd:=hr.1;unfold zTQ;simp only
 rw[xM (by omega),bs,zLH (p:=p) (r:=r) (B:=B)];have:=zW (body:=zM4 r (zK.mk p (D:Int) B)) (r:=acc p D D r B) (fun i=>(acc p D i r B,(i:Int))) D (fun i hi=>by
  have dV:=hB.1;unfold zM4;simp only
  rw[cd,xD hi,zN,yP (by omega),bs,yX [] (by omega),bs,zFH hp hD hi hr hB,bs,zC (by omega) (by omega),bs,cs]) (by
  unfold zM4;simp only
  rw[cd,xP,zI])
 rw[show((0:Nat):Int)=0 from rfl]at this;rw[this,bs];rfl
theorem zQd{A B:Mx}{i:Nat}(hi:i<A.length):(PM p D A B).take i++[wG p D (A.getD i []) B]=(PM p D A B).take (i+1):=by
 have _:=hp;have _:=hD;rw[K4 (by rw[tF];exact hi)]
 congr 2
 have:=zBQ (p:=p) (D:=D) (B:=B) hi;rw[J2,J3 (by rw[tF];exact hi)]at this;exact this.symm
theorem zI8{A B:Mx}{q:Int}(hA:Mat p D A)(hB:Mat p D B):zVC (zK.mk p q A) (zK.mk p (D:Int) B)=ja (zK.mk p (D:Int) (PM p D A B)):=by
 have cB:=hA.1;unfold zVC;have:=zW (body:=zM5 (zK.mk p q A) (zK.mk p (D:Int) B)) (r:=PM p D A B) (fun i=>((PM p D A B).take i,(i:Int))) D (fun i hi=>by
  unfold zM5;simp only
  rw[cB,xD hi,zN,yX [] (by omega),bs,zB2 hp hD (hA.2 i hi) hB rfl,bs,yN (by rw[K3,tF];simp;omega),bs,zC (by omega) (by omega),bs,cs,zQd hp hD (by omega)]) (by
  unfold zM5;simp only
  rw[cB,xP,zI,Jr (by rw[tF];omega)])
 rw[show((0:Nat):Int)=0 from rfl,K7]at this;rw[this,bs]
theorem zLI{i:Nat}(_hi:i<D):(J1 D (0:Int)).set i 1=mkv D fun j=>if j=i then 1 else 0:=by have _:=hp;have _:=hD;rw[uS,jF]
theorem zPe{i:Nat}(hi:i<D):(idM D).take i++[mkv D fun j=>if j=i then 1 else 0]=(idM D).take (i+1):=by
 have _:=hp;have _:=hD;rw[K4 (by rw[uJ];exact hi)]
 congr 2
 have:=zDj hi;rw[J2,J3 (by rw[uJ];exact hi)]at this;exact this.symm
theorem zN1:f_J (D:Int)=ja (idM D):=by
 unfold f_J;have:=zW (body:=zMv (D:Int)) (r:=idM D) (fun i=>((idM D).take i,(i:Int))) D (fun i hi=>by
  unfold zMv;simp only
  rw[xD hi,zN,xM (by omega),bs,uC,Kw,if_pos hi,bs,Je,zLI hp hD hi,yN (by rw[K3,uJ];simp;omega),bs,zC (by omega) (by omega),bs,cs,zPe hp hD hi]) (by
  unfold zMv;simp only
  rw[xP,zI,Jr (by rw[uJ];omega)])
 rw[show((0:Nat):Int)=0 from rfl,K7]at this;rw[this,bs]
theorem zBb:f_M p (D:Int)=ja (zK.mk p (D:Int) (idM D)):=by
 unfold f_M;have:=zW (body:=zTP (D:Int)) (r:=idM D) (fun i=>((idM D).take i,(i:Int))) D (fun i hi=>by
  unfold zTP;simp only
  rw[xD hi,zN,xM (by omega),bs,uC,Kw,if_pos hi,bs,Je,zLI hp hD hi,yN (by rw[K3,uJ];simp;omega),bs,zC (by omega) (by omega),bs,cs,zPe hp hD hi]) (by
  unfold zTP;simp only
  rw[xP,zI,Jr (by rw[uJ];omega)])
 rw[show((0:Nat):Int)=0 from rfl,K7]at this;rw[this,bs]
end
end Go.Pl

namespace Go.Pl
open Go Go.Ab Go.Wk Go.Pc
def nw:Nat→List Int→List Nat
 |_,[]=>[]
 |o,a::v=>J1 a.toNat o++nw (o+1) v
theorem zDk:∀(o:Nat)(u v:List Int),nw o (u++v)=nw o u++nw (o+u.length) v
 |o,[],v=>by simp[nw]
 |o,a::u,v=>by simp only[Jp,nw,zDk (o+1) u v,Ja,J6];rw[show o+1+u.length=o+(u.length+1)from by omega]
theorem zPf{v:List Int}{i:Nat}(h:i<v.length):nw 0 (v.take (i+1))=nw 0 (v.take i)++J1 (at0 v i).toNat i:=by rw[K4 h,zDk,K3,Gl (by omega),Jg];simp only[nw,J9];rw[at0,J2,J3 h];rfl
theorem zLJ{n:Nat}:∀(o:Nat)(v:List Int),o+v.length≤n→ ∀w∈nw o v,w<n
 |o,[],_,w,h=>by simp[nw]at h
 |o,a::v,hv,w,h=>by
  simp only[nw,Jj,J6]at h hv;rcases h with h|h
  ·have:=Jt h;omega
  ·exact zLJ (o+1) v (by omega) w h
theorem zFI:∀(o:Nat)(v:List Int),(∀i,i<v.length→at0 v i≤6)→(nw o v).length≤6*v.length
 |o,[],_=>by simp[nw]
 |o,a::v,h=>by
  have h0:=h 0 (by simp);have:=zFI (o+1) v fun i hi=>by have:=h (i+1) (by simpa using hi);simpa[at0]using this
  simp only[at0,Lv]at h0;simp only[nw,J5,Jh,J6];omega
def wM(p:Int)(D:Nat)(A:List Mx)(ws:List Nat)(B:Mx):Mx:=ws.foldl (fun B w=>PM p D B (A.getD w [])) B
theorem zFJ{p:Int}{D:Nat}{A:List Mx}{u v:List Nat}{B:Mx}:wM p D A (u++v) B=wM p D A v (wM p D A u B):=by simp[wM,Uj]
theorem zN2{p:Int}{D:Nat}{A:List Mx}{w:Nat}:∀(k:Nat)(B:Mx),wM p D A (J1 k w) B=iter k (fun B=>PM p D B (A.getD w [])) B
 |0,_=>rfl
 |k+1,B=>by rw[Jq];show wM p D A (J1 k w) (PM p D B (A.getD w []))=_;rw[zN2 k];rfl
theorem zHQ{p:Int}{D:Nat}{A:List Mx}(hp:0<p):∀(ws:List Nat){B:Mx},Mat p D B→Mat p D (wM p D A ws B)
 | [],_,hB=>hB
 |_w::ws,_,hB=>zHQ hp ws (zHM hp hB.1)
theorem zJZ{p:Int}{D:Nat}{A:List Mx}(hp:0<p){C:Mx}(hC:C.length=D):∀(ws:List Nat){B:Mx},Mat p D B→wM p D A ws (PM p D C B)=PM p D C (wM p D A ws B)
 | [],_,_=>rfl
 |w::ws,B,hB=>by show wM p D A ws (PM p D (PM p D C B) (A.getD w []))=PM p D C (wM p D A ws (PM p D B (A.getD w [])));rw[zLE hC hB.1,zJZ hp hC ws (zHM hp hB.1)]
structure MOk (n:Nat) (m:zG) (D:Nat):Prop where
 p:Prime m.Prime
 d:m.Dim=(D:Int)
 d1:1≤D
 d3:D≤3
 len:m.zR.length=n
 mat:∀i,i<n→Mat m.Prime D (m.zR.getD i [])
structure zSp (n:Nat) (m:zG) (D:Nat):Prop where
 p:Prime m.Prime
 d1:1≤D
 d3:D≤200
 len:m.zR.length=n
 mat:∀i,i<n→Mat m.Prime D (m.zR.getD i [])
theorem MOk.b{n D:Nat}{m:zG}(h:MOk n m D):zSp n m D:=⟨h.p,h.d1,by have:=h.d3;omega,h.len,h.mat⟩
section
variable {n D:Nat}{m:zG} (hm:MOk n m D) (hn:n≤9)
 include hm hn
abbrev enW(ws:List Nat):List Int:=ws.map fun(w:Nat)=>(w:Int)+1
theorem zDE{i:Nat}(hi:i<n):zTJ m (i:Int)=ja (zK.mk m.Prime (D:Int) (m.zR.getD i [])):=by have _:=hn;have gj:=hm.len;unfold zTJ;rw[yX [] (by omega),bs,hm.d]
theorem zI9{ws:List Nat}(hw:∀w∈ws,w<n)(hl:ws.length≤1000000):f_N m (enW ws)=ja (zK.mk m.Prime (D:Int) (wM m.Prime D m.zR ws (idM D))):=by
 have h7:=hm.p.pos;have h3:=hm.d3;unfold f_N;rw[hm.d,zBb hm.p (by omega),bs];have hI:∀i,Mat m.Prime D (wM m.Prime D m.zR (ws.take i) (idM D)):=fun i=>zHQ (by omega) _ (qR h7.1)
 have a9:(enW ws).length=ws.length:=by simp only[enW,Jd]
 have:=zW (body:=zTR m (enW ws)) (r:=(m.Prime,(D:Int),wM m.Prime D m.zR ws (idM D))) (fun i=>(m.Prime,(D:Int),wM m.Prime D m.zR (ws.take i) (idM D),(i:Int))) ws.length (fun i hi=>by
  have mY:=hw ws[i] (Kf hi);unfold zTR;simp only
  rw[a9,xD hi,zN,uC,K1,J3 hi];simp only[Hk];rw[bs,zC (by omega) (by omega),bs,show((ws[i]:Nat):Int)+1-1=((ws[i]:Nat):Int)from by omega,zDE hm hn mY,bs,zI8 hm.p (by omega) (hI i) (hm.mat _ mY),bs,zC (by omega) (by omega),bs,cs,K4 hi,zFJ];rfl) (by
  unfold zTR;simp only
  rw[a9,xP,zI,Jr (by omega)])
 rw[show((0:Nat):Int)=0 from rfl,K7]at this;simp only[wM,Jal]at this;simp only
 rw[this,bs];rfl
end
theorem kY{v:List Int}(hl:v.length≤9)(hv:∀i,i<v.length→0≤at0 v i∧at0 v i≤6):f_w v=ja (enW (nw 0 v)):=by
 unfold f_w;have gj:∀i,(nw 0 (v.take i)).length≤54:=fun i=>by
  have:=zFI 0 (v.take i) fun j hj=>by
   rw[K3]at hj;have e:at0 (v.take i) j=at0 v j:=by simp only[at0,J2,H5];rw[if_pos (by omega)]
   rw[e];exact(hv j (by omega)).2
  rw[K3]at this;omega
 have:=zW (body:=zTL v) (r:=enW (nw 0 v)) (fun i=>(enW (nw 0 (v.take i)),(i:Int))) v.length (fun i hi=>by
  have hvi:=hv i hi;have hli:=gj i;unfold zTL;simp only
  rw[xD hi,zN,yP hi,bs];have inner:=zW (body:=zTK (enW (nw 0 (v.take i)),(i:Int)) (at0 v i)) (r:=enW (nw 0 (v.take (i+1)))) (fun k=>(enW (nw 0 (v.take i)++J1 k i),(k:Int))) (at0 v i).toNat (fun k hk=>by
   unfold zTK;simp only
   rw[jf (by omega),zN,zC (by omega) (by omega),bs,yN (by simp only[Jd,J5,Jh,J6,Ju];omega),bs,zC (by omega) (by omega),bs,cs]
   congr 3
   rw[H6,←Ja];simp only[enW,Kx,Jv,Ly];rfl) (by
   unfold zTK;simp only
   rw[je (by omega),zI,zPf hi])
  rw[show((0:Nat):Int)=0 from rfl,Hh,J9]at inner;rw[inner,bs,zC (by omega) (by omega),bs,cs]) (by
  unfold zTL;simp only
  rw[xP,zI,Lo])
 rw[show((0:Nat):Int)=0 from rfl,K7]at this;simp only[nw,enW,Ly]at this;rw[this,bs]
theorem zN3{v o:Int}(h:zVB 1 (IntKind.wrap .u64 o)=ja (0,o)):zVB (IntKind.wrap .u64 (([v]:List Int).length:Int)) (IntKind.wrap .u64 o)=ja (0,o):=by rw[show IntKind.wrap .u64 (([v]:List Int).length:Int)=1 from by simp;decide];exact h
theorem zCM{v o:Int}(ho:Prime o):f_i [v] o=ja (J1 o.toNat v):=by
 unfold f_i;rcases ho with rfl|rfl|rfl|rfl
 ·have h:=zW (body:=tL) (r:=[v,v]) (fun i=>match i with|0=>([v,0],1)|_=>([v,v],2)) 1 (fun i hi=>by
   match i,hi with
   |0,_=>simp[tL,yA,xX,rng,inR]) (by simp[tL])
  rw[zN3 (by decide+kernel),bs];have hl:yY (IntKind.wrap .i64 2)=ja 2:=by decide+kernel
  simp only[hl,bs];rw[show decide ((2:Int)<0)=jd from rfl,zI,show decide ((0:Int)> 0)=jd from rfl,zI,show decide ((2:Int)> 9223372036854775807)=jd from by decide,zI];have e2:xX (J1 2 (0:Int)) 0 (([v]:List Int).take ((J1 2 (0:Int)).length-0))=[v,0]:=by simp[xX,J1]
  have e3:((min ([v]:List Int).length ((J1 2 (0:Int)).length-0):Nat):Int)=1:=by simp
  rw[e2,e3];have h':zH tL ([v,0],1)=_:=h;rw[h',bs];rfl
 ·have h:=zW (body:=tL) (r:=[v,v,v]) (fun i=>match i with|0=>([v,0,0],1)|1=>([v,v,0],2)|_=>([v,v,v],3)) 2 (fun i hi=>by
   match i,hi with
   |0,_=>simp[tL,yA,xX,rng,inR]
   |1,_=>simp[tL,yA,xX,rng,inR]) (by simp[tL])
  rw[zN3 (by decide+kernel),bs];have hl:yY (IntKind.wrap .i64 3)=ja 3:=by decide+kernel
  simp only[hl,bs];rw[show decide ((3:Int)<0)=jd from rfl,zI,show decide ((0:Int)> 0)=jd from rfl,zI,show decide ((3:Int)> 9223372036854775807)=jd from by decide,zI];have e2:xX (J1 3 (0:Int)) 0 (([v]:List Int).take ((J1 3 (0:Int)).length-0))=[v,0,0]:=by simp[xX,J1]
  have e3:((min ([v]:List Int).length ((J1 3 (0:Int)).length-0):Nat):Int)=1:=by simp
  rw[e2,e3];have h':zH tL ([v,0,0],1)=_:=h;rw[h',bs];rfl
 ·have h:=zW (body:=tL) (r:=[v,v,v,v,v]) (fun i=>match i with|0=>([v,0,0,0,0],1)|1=>([v,v,0,0,0],2)|2=>([v,v,v,v,0],4)|_=>([v,v,v,v,v],5)) 3 (fun i hi=>by
   match i,hi with
   |0,_=>simp[tL,yA,xX,rng,inR]
   |1,_=>simp[tL,yA,xX,rng,inR]
   |2,_=>simp[tL,yA,xX,rng,inR]) (by simp[tL])
  rw[zN3 (by decide+kernel),bs];have hl:yY (IntKind.wrap .i64 5)=ja 5:=by decide+kernel
  simp only[hl,bs];rw[show decide ((5:Int)<0)=jd from rfl,zI,show decide ((0:Int)> 0)=jd from rfl,zI,show decide ((5:Int)> 9223372036854775807)=jd from by decide,zI];have e2:xX (J1 5 (0:Int)) 0 (([v]:List Int).take ((J1 5 (0:Int)).length-0))=[v,0,0,0,0]:=by simp[xX,J1]
  have e3:((min ([v]:List Int).length ((J1 5 (0:Int)).length-0):Nat):Int)=1:=by simp
  rw[e2,e3];have h':zH tL ([v,0,0,0,0],1)=_:=h;rw[h',bs];rfl
 ·have h:=zW (body:=tL) (r:=[v,v,v,v,v,v,v]) (fun i=>match i with|0=>([v,0,0,0,0,0,0],1)|1=>([v,v,0,0,0,0,0],2)|2=>([v,v,v,v,0,0,0],4)|_=>([v,v,v,v,v,v,v],7)) 3 (fun i hi=>by
   match i,hi with
   |0,_=>simp[tL,yA,xX,rng,inR]
   |1,_=>simp[tL,yA,xX,rng,inR]
   |2,_=>simp[tL,yA,xX,rng,inR]) (by simp[tL])
  rw[zN3 (by decide+kernel),bs];have hl:yY (IntKind.wrap .i64 7)=ja 7:=by decide+kernel
  simp only[hl,bs];rw[show decide ((7:Int)<0)=jd from rfl,zI,show decide ((0:Int)> 0)=jd from rfl,zI,show decide ((7:Int)> 9223372036854775807)=jd from by decide,zI];have e2:xX (J1 7 (0:Int)) 0 (([v]:List Int).take ((J1 7 (0:Int)).length-0))=[v,0,0,0,0,0,0]:=by simp[xX,J1]
  have e3:((min ([v]:List Int).length ((J1 7 (0:Int)).length-0):Nat):Int)=1:=by simp
  rw[e2,e3];have h':zH tL ([v,0,0,0,0,0,0],1)=_:=h;rw[h',bs];rfl
end Go.Pl

namespace Go.Pl
open Go Go.Ab Go.Wk Go.Pc
theorem zLK{p:Int}{D:Nat}{r:List Int}(hp:Prime p)(hD:D≤8):IsB (zV9 r p (D:Int)) (Row p D r):=by
 have h7:=hp.pos;unfold zV9
 by_cases h:r.length=D
 ·rw[zA5 (by omega),zI]
  refine(zA4 r.length (fun i=>0≤at0 r i∧at0 r i≤p-1) rfl (fun i hi _=>?_) ?_).iff ⟨fun g=>⟨h,by rw[←h];exact g⟩,fun g=>by rw[h];exact g.2⟩
  ·refine jE (kN _ _ _) (by omega) ?_
   unfold zPF;rw[xD hi,zN,yP hi,bs,zC (by omega) (by omega),bs]
  ·unfold zPF
   rw[xP,zI]
 ·rw[zAd (by omega),zN]
  exact .inr ⟨rfl,fun g=>h g.1⟩
theorem zLL{p:Int}{D:Nat}{r:List Int}(hp:Prime p)(hD:D≤8):IsB (zV5 p (D:Int) r) (Row p D r):=by
 have h7:=hp.pos;unfold zV5
 by_cases h:r.length=D
 ·rw[zA5 (by omega),zI]
  refine(zA4 r.length (fun i=>0≤at0 r i∧at0 r i≤p-1) rfl (fun i hi _=>?_) ?_).iff ⟨fun g=>⟨h,by rw[←h];exact g⟩,fun g=>by rw[h];exact g.2⟩
  ·refine jE (zAO _ _ _) (by omega) ?_
   unfold zPD;rw[xD hi,zN,yP hi,bs,zC (by omega) (by omega),bs]
  ·unfold zPD
   rw[xP,zI]
 ·rw[zAd (by omega),zN]
  exact .inr ⟨rfl,fun g=>h g.1⟩
def zFK(x:SPr)(m:zG)(D:Nat):Prop:=
 ∀i,i<x.zA.length→wM m.Prime D m.zR (J1 (at0 x.zA i).toNat i) (idM D)=wM m.Prime D m.zR (nw 0 (x.zT.getD i [])) (idM D)∧
  ∀j,i+1≤j→j<x.zA.length→PM m.Prime D (m.zR.getD j []) (m.zR.getD i [])=PM m.Prime D (m.zR.getD i []) (wM m.Prime D m.zR (nw 0 ((x.zE.getD i []).getD (j-(i+1)) [])) (idM D))
theorem zAu{x:SPr}{v:List Int}{i:Nat}(ho:Os x.zA)(h:Exp x.zA v i):v.length=x.zA.length∧ ∀j,j<x.zA.length→0≤at0 v j∧at0 v j≤6:=by have h1:=h.1.1;refine⟨h1,fun j hj=>?_⟩;have:=h.1.2 j (by omega);have:=(ho.2 j hj).pos;omega
end Go.Pl

namespace Go.Pl
open Go Go.Ab Go.Wk Go.Pc
abbrev Rl:=List Nat×List Nat
def r1(x:SPr)(i:Nat):Rl:=(J1 (at0 x.zA i).toNat i,nw 0 (x.zT.getD i []))
def r2(x:SPr)(i j:Nat):Rl:=([i+j+1,i],i::nw 0 ((x.zE.getD i []).getD j []))
def R2(x:SPr)(i:Nat):List Rl:=(Jl (x.zE.getD i []).length).map (r2 x i)
def uU(x:SPr):List Rl:=(Jl x.zA.length).map (r1 x)++(Jl x.zA.length).flatMap (R2 x)
abbrev enR(q:Rl):List Int×List Int:=(enW q.1,enW q.2)
section
variable {x:SPr} (h:Pres x)
 include h
theorem zXO{i:Nat}(hi:i<x.zA.length):(R2 x i).length≤9:=by have:=(h.tl i hi).2.1;have:=h.os.1;simp only[R2,Jd,Ky];omega
theorem zKa:∀i,i≤x.zA.length→((Jl i).flatMap (R2 x)).length≤9*i
 |0,_=>by simp
 |i+1,hi=>by have:=zKa i (by omega);have:=zXO h (i:=i) (by omega);rw[Lr,Lz,J5];simp only[Ln,Jam,J9];omega
theorem zVc{k i:Nat}:enW (J1 k i)=J1 k ((i:Int)+1):=by have _:=h;simp[enW]
theorem zEf:f_A x=ja ((uU x).map enR):=by
 have h6:=h.os.1;have pI:=h.pl;have gG:=h.cl;unfold f_A;have l1:=zW (body:=zTM x) (r:=((Jl x.zA.length).map (r1 x)).map enR) (fun i=>(((Jl i).map (r1 x)).map enR,(i:Int))) x.zA.length (fun i hi=>by
  obtain⟨p1,p2⟩:=zAu h.os (h.tl i hi).1;unfold zTM;simp only
  rw[xD hi,zN,yP hi,bs,zC (by omega) (by omega),bs,zCM (h.os.2 i hi),bs,yX [] (by omega),bs,kY (by omega) (by rw[p1];exact p2),bs,yN (by simp only[Jd,Ky,J6,Ju];omega),bs,bs,cs,Lr];simp only[Kx,Jv,Ly,r1,enR,zVc h,cs]) (by
  unfold zTM;simp only
  rw[xP,zI])
 rw[show((0:Nat):Int)=0 from rfl]at l1;simp only[Q9,Ly]at l1;rw[l1,bs];have l3:=zW (body:=zTO x) (r:=(uU x).map enR) (fun i=>(((Jl x.zA.length).map (r1 x)++(Jl i).flatMap (R2 x)).map enR,(i:Int))) x.zA.length (fun i hi=>by
  have t2:=(h.tl i hi).2.1;have iM:=zKa h i (by omega);unfold zTO;simp only
  rw[xD hi,zN,yX [] (by omega),bs];have l2:=zW (body:=zTN (((Jl x.zA.length).map (r1 x)++(Jl i).flatMap (R2 x)).map enR,(i:Int)) (x.zE.getD i [])) (r:=((Jl x.zA.length).map (r1 x)++(Jl (i+1)).flatMap (R2 x)).map enR)
   (fun j=>(((Jl x.zA.length).map (r1 x)++(Jl i).flatMap (R2 x)++(Jl j).map (r2 x i)).map enR,(j:Int))) (x.zE.getD i []).length (fun j hj=>by
    obtain⟨p1,p2⟩:=zAu h.os ((h.tl i hi).2.2 j hj);have pP:=zFI 0 ((x.zE.getD i []).getD j []) (by rw[p1];exact fun i hi=>(p2 i hi).2);unfold zTN;simp only
    rw[xD hj,zN,yX [] hj,bs,zC (by omega) (by omega),bs,zC (by omega) (by omega),bs,zC (by omega) (by omega),bs,kY (by omega) (by rw[p1];exact p2),bs,yN (by simp only[Jd,J6,Ju];omega),bs,yN (by simp only[Jd,J5,Ky,J6,Ju];omega),bs,zC (by omega) (by omega),bs,cs,Lr];have e1:(i:Int)+(j:Int)+2=((i+j+1:Nat):Int)+1:=by omega
    simp only[Kx,Jv,Ly,r2,enR,enW,Ja,Lw,e1];rfl) (by
    unfold zTN;simp only
    rw[xP,zI,Lr,Lz];simp only[Ln,Jam,J9,Ja,R2])
  rw[show((0:Nat):Int)=0 from rfl]at l2;simp only[Q9,Ly,J9]at l2;rw[l2,bs,zC (by omega) (by omega),bs,cs]) (by
  unfold zTO;simp only
  rw[xP,zI];rfl)
 rw[show((0:Nat):Int)=0 from rfl]at l3;simp only[Q9,Jam,J9]at l3;rw[l3,bs]
theorem zQe{q:Rl}(hq:q∈uU x):((∀w∈q.1,w<x.zA.length)∧q.1.length≤1000)∧(∀w∈q.2,w<x.zA.length)∧q.2.length≤1000:=by
 have h6:=h.os.1;simp only[uU,Jj,Js,Kv,Gp,R2]at hq;rcases hq with⟨i,hi,rfl⟩|⟨i,hi,j,hj,rfl⟩
 ·obtain⟨p1,p2⟩:=zAu h.os (h.tl i hi).1
  have pP:=zFI 0 (x.zT.getD i []) (by rw[p1];exact fun i hi=>(p2 i hi).2);have cv:=(h.os.2 i hi).pos;refine⟨⟨fun w hw=>?_,?_⟩,fun w hw=>zLJ 0 _ (by omega) w hw,by simp only[r1];omega⟩
  ·have:=Jt hw;omega
  ·simp only[r1,Jh];omega
 ·obtain⟨p1,p2⟩:=zAu h.os ((h.tl i hi).2.2 j hj)
  have t2:=(h.tl i hi).2.1;have pP:=zFI 0 ((x.zE.getD i []).getD j []) (by rw[p1];exact fun i hi=>(p2 i hi).2);refine⟨⟨fun w hw=>?_,by simp[r2]⟩,fun w hw=>?_,by simp only[r2,J6];omega⟩
  ·simp only[r2,Jc,Jb7,or_false]at hw;omega
  ·simp only[r2,Jc]at hw
   rcases hw with rfl|hw
   ·exact hi
   ·exact zLJ 0 _ (by omega) w hw
variable {m:zG}{D:Nat} (hm:MOk x.zA.length m D)
 include hm
end
end Go.Pl

namespace Go.Pl
open Go Go.Ab Go.Wk Go.Pc
theorem zFL{xs:List (List Int)}{i:Nat}(h:i<xs.length):(xs.take (i+1)).flatten=(xs.take i).flatten++xs.getD i []:=by rw[K4 h,Qr,J2,J3 h];simp
theorem zKb{xs:List (List Int)}(i:Nat):(xs.take i).flatten.length≤xs.flatten.length:=by
 have:xs.flatten=(xs.take i).flatten++(xs.drop i).flatten:=by rw[←Qr,Jbi]
 rw[this,J5];omega
theorem zQf{k:Nat}(hk:k≤1000000):zTS (k:Int)=ja []:=by
 unfold zTS;rw[je (by omega),zI,zC (by decide) (by decide),bs,zC (by omega) (by omega),bs]
 by_cases h:(k:Int)-(0-0)> 0
 ·rw[jf h,zN]
  have e:vL ([]:List Int) ((k:Int)-(0-0)) 0=ja (J1 k 0):=by unfold vL;rw[if_pos (by simp;omega)];simp
  rw[e,bs];rfl
 ·rw[je h,zI]
theorem zAQ{xs:List (List Int)}(hx:xs.length≤1000)(hf:xs.flatten.length≤1000000):f_v xs=ja xs.flatten:=by
 unfold f_v;have l1:=zW (body:=zTT xs) (r:=((xs.flatten.length:Nat):Int)) (fun i=>((((xs.take i).flatten.length:Nat):Int),(i:Int))) xs.length (fun i hi=>by
  have h1:=zFL hi;have h2:=zKb (xs:=xs) (i+1);have h3:=congrArg Jbt h1;rw[J5]at h3;unfold zTT;simp only
  rw[xD hi,zN,yX [] hi,bs,zC (by omega) (by omega),bs,je (by omega),zI,zC (by omega) (by omega),bs,cs,h3]
  congr 3) (by
  unfold zTT;simp only
  rw[xP,zI,Lo])
 rw[show((0:Nat):Int)=0 from rfl]at l1;simp only[K7,G4,Ju]at l1;rw[show((0:Nat):Int)=0 from rfl]at l1;rw[l1,bs,zQf hf,bs];have l2:=zW (body:=zTU xs) (r:=xs.flatten) (fun i=>((xs.take i).flatten,(i:Int))) xs.length (fun i hi=>by
  have h1:=zFL hi;have h2:=zKb (xs:=xs) (i+1);have h3:=congrArg Jbt h1;rw[J5]at h3;unfold zTU;simp only
  rw[xD hi,zN,yX [] hi,bs,yN (by omega),bs,zC (by omega) (by omega),bs,cs,h1]) (by
  unfold zTU;simp only
  rw[xP,zI,Lo])
 rw[show((0:Nat):Int)=0 from rfl]at l2;simp only[K7,G4]at l2;rw[l2,bs]
end Go.Pl

namespace Go.Pl
open Go Go.Ab Go.Wk Go.Pc
section
variable {p:Int}
def tG(p:Int)(D:Nat)(r:List Int)(k:Int)(s:List Int):List Int:=mkv D fun j=>(at0 r j+k*at0 s j)%p
theorem zSq{D:Nat}{r s:List Int}{k:Int}:(tG p D r k s).length=D:=yB _ _
def zFM(p:Int)(D i:Nat)(r:List Int)(k:Int)(s:List Int):List Int:=mkv D fun j=>if j<i then(at0 r j+k*at0 s j)%p else at0 r j
theorem zFN{D:Nat}{r s:List Int}{k:Int}(hr:r.length=D):zFM p D 0 r k s=r:=by
 conv=>rhs;rw[vX hr]
 exact zX fun j _=>by rw[if_neg (by omega)]
theorem zFO{D:Nat}{r s:List Int}{k:Int}:zFM p D D r k s=tG p D r k s:=zX fun j hj=>by rw[if_pos hj]
theorem zHR{D i:Nat}{r s:List Int}{k a:Int}(ha:a=(at0 r i+k*at0 s i)%p):(zFM p D i r k s).set i a=zFM p D (i+1) r k s:=by
 simp only[zFM];rw[jF];refine zX fun j _=>?_
 by_cases h:j=i
 ·subst h;rw[if_pos rfl,if_pos (by omega),ha]
 ·rw[if_neg h]
  by_cases h2:j<i
  ·rw[if_pos h2,if_pos (by omega)]
  ·rw[if_neg h2,if_neg (by omega)]
theorem zKc{D i:Nat}{r s:List Int}{k:Int}(hi:i<D):at0 (zFM p D i r k s) i=at0 r i:=by rw[zFM,yE hi,if_neg (by omega)]
theorem zB3{D i:Nat}{r s:List Int}{k:Int}:(zFM p D i r k s).length=D:=yB _ _
end
section
variable {p:Int} (hp:Prime p)
 include hp
theorem zLM{a:Int}(_h0:-1000≤a)(_h1:a≤1000):zK9 a p=ja (a%p):=by
 have h7:=hp.pos;have e1:=Jbk a (show 0<p by omega);have e2:=Jbl a (show 0<p by omega);have e3:(Jc8 a p+p)%p=a%p:=by
  rw[Us];have:=Jb1 a p
  conv=>rhs;rw[←this]
  rw[H1]
 unfold zK9 vS;rw[if_neg (by omega),bs,zC (by omega) (by omega),bs,if_neg (by omega),bs,L4 (by omega),e3]
theorem zLN{a:Int}(_h0:-1000≤a)(_h1:a≤1000):zUb a p=ja (a%p):=by
 have h7:=hp.pos;have e1:=Jbk a (show 0<p by omega);have e2:=Jbl a (show 0<p by omega);have e3:(Jc8 a p+p)%p=a%p:=by
  rw[Us];have:=Jb1 a p
  conv=>rhs;rw[←this]
  rw[H1]
 unfold zUb vS;rw[if_neg (by omega),bs]
 by_cases h:Jc8 a p<0
 ·rw[jf h,zN,zC (by omega) (by omega),bs,←e3,Kj (by omega) (by omega)]
 ·rw[je h,zI,←e3,Us,Kj (by omega) (by omega)]
theorem zA8{D:Nat}{r s:List Int}{k:Int}:Row p D (tG p D r k s):=by have h7:=hp.pos;refine⟨yB _ _,fun i hi=>?_⟩;have e:at0 (tG p D r k s) i=(at0 r i+k*at0 s i)%p:=yE hi;have e1:=L7 (at0 r i+k*at0 s i) (show p≠0 by omega);have e2:=Kr (at0 r i+k*at0 s i) (show 0<p by omega);rw[e];omega
theorem zBR{k b:Int}(hk:-7≤k∧k≤7)(hb:0≤b∧b≤p-1):-49≤k*b∧k*b≤49:=by
 have h7:=hp.pos;rcases Int.le_total 0 k with h|h
 ·have h1:=U3 h hb.1
  have h2:=Lu hk.2 (show b≤7 by omega) hb.1 (by omega);omega
 ·have h1:=U3 (show 0≤ -k by omega) hb.1
  have h2:=Lu (show -k≤7 by omega) (show b≤7 by omega) hb.1 (by omega);rw[Int.neg_mul]at h1 h2;omega
theorem zAv{D:Nat}{r s:List Int}{k:Int}(hr:Row p D r)(hs:Row p D s)(hk:-7≤k∧k≤7)(hD:D≤1000000):f_s r s k p=ja (tG p D r k s):=by
 have h7:=hp.pos;have:=zW (body:=zM3 r s k p) (r:=tG p D r k s) (fun i=>(zFM p D i r k s,(i:Int))) D (fun i hi=>by
  have a1:=hr.2 i hi;have a2:=hs.2 i hi;have a3:=zBR hp hk a2;unfold zM3;simp only
  rw[hr.1,xD hi,zN,yP (by rw[zB3];exact hi),bs,yP (by rw[hs.1];exact hi),bs,zC (by omega) (by omega),bs,zKc hi,zC (by omega) (by omega),bs,zLM hp (by omega) (by omega),bs,bs,zC (by omega) (by omega),bs,cs,Je,zHR rfl]) (by
  unfold zM3;simp only
  rw[hr.1,xP,zI,zFO])
 rw[show((0:Nat):Int)=0 from rfl,zFN hr.1]at this;unfold f_s;rw[this,bs]
theorem tO{D:Nat}{r s:List Int}{k:Int}(hr:Row p D r)(hs:Row p D s)(hk:-7≤k∧k≤7)(hD:D≤1000000):f_x p r k s=ja (tG p D r k s):=by
 have h7:=hp.pos;have:=zW (body:=zUc p k s) (r:=tG p D r k s) (fun i=>(zFM p D i r k s,(i:Int))) D (fun i hi=>by
  have a1:=hr.2 i hi;have a2:=hs.2 i hi;have a3:=zBR hp hk a2;unfold zUc;simp only
  rw[zB3,xD hi,zN,hs.1,xD hi,zN,yP (by rw[zB3];exact hi),bs,yP (by rw[hs.1];exact hi),bs,zC (by omega) (by omega),bs,zKc hi,zC (by omega) (by omega),bs,zLN hp (by omega) (by omega),bs,bs,zC (by omega) (by omega),bs,cs,Je,zHR rfl]) (by
  unfold zUc;simp only
  rw[zB3,xP,zI,zFO])
 rw[show((0:Nat):Int)=0 from rfl,zFN hr.1]at this;unfold f_x;rw[qO (by rw[hr.1];omega),bs,this,bs]
end
theorem zEg{p:Int}{D:Nat}{r s:List Int}:tG p D r (p-1) s=tG p D r (-1) s:=zX fun j _=>by rw[show at0 r j+(p-1)*at0 s j=at0 r j+ -1*at0 s j+p*at0 s j from by rw[Ja9];omega,H1]
end Go.Pl

namespace Go.Pl
open Go Go.Ab Go.Wk Go.Pc
def VOk(n:Nat)(p:Int)(D:Nat)(vals:Mx):Prop:=vals.length=n∧ ∀i,i<n→Row p D (vals.getD i [])
def stp(m:zG)(D:Nat)(vals:Mx)(v:List Int)(w:Nat):List Int:=tG m.Prime D (wG m.Prime D v (m.zR.getD w [])) 1 (vals.getD w [])
def ev(m:zG)(D:Nat)(vals:Mx)(v:List Int)(ws:List Nat):List Int:=ws.foldl (stp m D vals) v
theorem zJo{m:zG}{D:Nat}{vals:Mx}{v:List Int}{a b:List Nat}:ev m D vals v (a++b)=ev m D vals (ev m D vals v a) b:=by simp[ev,Uj]
theorem zN4{m:zG}{D:Nat}{vals:Mx}{w:Nat}:∀(k:Nat)(v:List Int),ev m D vals v (J1 k w)=iter k (fun v=>stp m D vals v w) v
 |0,_=>rfl
 |k+1,v=>by rw[Jq];show ev m D vals (stp m D vals v w) (J1 k w)=_;rw[zN4 k];rfl
abbrev z0(D:Nat):List Int:=J1 D 0
theorem zHS{p:Int}{D:Nat}(hp:0<p):Row p D (z0 D):=by
 refine⟨by simp,fun i hi=>?_⟩;have:at0 (z0 D) i=0:=by simp[z0,at0,J2,hi]
 rw[this];omega
theorem wY{p:Int}{D:Nat}{r:List Int}{B:Mx}(hp:0<p):Row p D (wG p D r B):=by refine⟨yB _ _,fun i hi=>?_⟩;have e1:=L7 (S D (fun l=>at0 r l*ent B l i)) (show p≠0 by omega);have e2:=Kr (S D (fun l=>at0 r l*ent B l i)) hp;rw[wG,yE hi];omega
section
variable {n D:Nat}{m:zG} (hm:MOk n m D) (hn:n≤9) {vals:Mx} (hv:VOk n m.Prime D vals)
 include hm hn hv
theorem zBS{v:List Int}{w:Nat}:Row m.Prime D (stp m D vals v w):=by have _:=hn;have _:=hv;exact zA8 hm.p
theorem zEh{v:List Int}(h:Row m.Prime D v):∀ws,Row m.Prime D (ev m D vals v ws):=by
 intro ws
 induction ws generalizing v with
 |nil=>exact h
 |cons w ws ih=>exact ih (zBS hm hn hv)
theorem zB4{v:List Int}{w:Nat}(h:Row m.Prime D v)(hw:w<n):zMC m vals v (w:Int)=ja (stp m D vals v w):=by have _:=hn;have h7:=hm.p.pos;have h3:=hm.d3;unfold zMC;rw[yX [] (by rw[hm.len];exact hw),bs,hm.d,zHP hm.p (by omega) h (hm.mat w hw),bs,yX [] (by rw[hv.1];exact hw),bs,tO hm.p (wY (by omega)) (hv.2 w hw) (by omega) (by omega),bs];rfl
theorem zGt{v x:List Int}(h:Row m.Prime D v)(hl:x.length=n)(hx:∀i,i<n→0≤at0 x i∧at0 x i≤6):f_K m vals v x=ja (ev m D vals v (nw 0 x)):=by
 have:=zW (body:=zUh m vals x) (r:=ev m D vals v (nw 0 x)) (fun i=>(ev m D vals v (nw 0 (x.take i)),(i:Int))) n (fun i hi=>by
  have dA:=hx i hi;unfold zUh;simp only
  rw[hl,xD hi,zN];rw[uX (S:=Row m.Prime D) (body:=zUg m vals x (ev m D vals v (nw 0 (x.take i)),(i:Int))) (fun v=>v) (fun v=>stp m D vals v i) (at0 x i) dA.1 (fun v _=>zBS hm hn hv) (fun u q hu hq=>by
   unfold zUg;simp only
   rw[yP (by omega),bs,jf hq,zN,zB4 hm hn hv hu hi,bs,zC (by omega) (by omega),bs,cs]) (fun u hu=>by
   unfold zUg;simp only
   rw[yP (by omega),bs,je (by omega),zI]) (zEh hm hn hv h _),bs,zC (by omega) (by omega),bs,cs]
  rw[zPf (by omega),zJo,zN4]) (by
  unfold zUh;simp only
  rw[hl,xP,zI,Jr (by omega)])
 rw[show((0:Nat):Int)=0 from rfl,K7]at this;simp only[nw,ev,Jal]at this;unfold f_K;rw[this,bs];rfl
theorem zEL{ws:List Nat}(hw:∀w∈ws,w<n)(hl:ws.length≤1000):zUi m vals (enW ws)=ja (ev m D vals (z0 D) ws):=by
 have h7:=hm.p.pos;have h3:=hm.d3;unfold zUi;rw[hm.d,xM (by omega),bs];have hz:=zHS (p:=m.Prime) (D:=D) (by omega);have a9:(enW ws).length=ws.length:=by simp only[enW,Jd]
 have:=zW (body:=zMD m vals (enW ws)) (r:=ev m D vals (z0 D) ws) (fun i=>(ev m D vals (z0 D) (ws.take i),(i:Int))) ws.length (fun i hi=>by
  have mY:=hw ws[i] (Kf hi);have hr:=zEh hm hn hv hz (ws.take i);unfold zMD;simp only
  rw[a9,xD hi,zN,uC,K1,J3 hi];simp only[Hk];rw[bs,zC (by omega) (by omega),bs,show((ws[i]:Nat):Int)+1-1=((ws[i]:Nat):Int)from by omega,zDE hm hn mY,bs,zB2 hm.p (by omega) hr (hm.mat _ mY) rfl,bs,bs,yX [] (by rw[hv.1];exact mY),bs,zAv hm.p (wY (by omega)) (hv.2 _ mY) (by omega) (by omega),bs,zC (by omega) (by omega),bs,cs,K4 hi,zJo];rfl) (by
  unfold zMD;simp only
  rw[a9,xP,zI,Jr (by omega)])
 rw[show((0:Nat):Int)=0 from rfl,K7]at this;simp only[ev,Jal]at this;rw[this,bs];rfl
end
section
variable {x:SPr} (h:Pres x) {m:zG}{D:Nat} (hm:MOk x.zA.length m D) {vals:Mx} (hv:VOk x.zA.length m.Prime D vals)
 include h hm hv
abbrev dfc(m:zG)(D:Nat)(vals:Mx)(q:Rl):List Int:=tG m.Prime D (ev m D vals (z0 D) q.1) (-1) (ev m D vals (z0 D) q.2)
theorem zKd:(uU x).length≤100:=by have _:=hv;have _:=hm;have h6:=h.os.1;have iM:=zKa h x.zA.length (Jo _);simp only[uU,J5,Jd,Ky];omega
theorem zKe:zVM x m vals=ja ((uU x).map (dfc m D vals)):=by
 have h6:=h.os.1;have h7:=hm.p.pos;have h3:=hm.d3;have cd:=zKd h hm hv;have hz:=zHS (p:=m.Prime) (D:=D) (by omega);unfold zVM;rw[zEf h,bs];have:=zW (body:=zME m vals ((uU x).map enR)) (r:=(uU x).map (dfc m D vals)) (fun i=>(((uU x).map (dfc m D vals)).take i,(i:Int))) (uU x).length (fun i hi=>by
  have gx:(uU x)[i]∈uU x:=Kf hi;obtain⟨⟨g1,g2⟩,g3,g4⟩:=zQe h gx;unfold zME;simp only
  rw[Jd,xD hi,zN,uC,K1,J3 hi];simp only[Hk];rw[bs,zEL hm h6 hv g1 g2,bs,zEL hm h6 hv g3 g4,bs,zAv hm.p (zEh hm h6 hv hz _) (zEh hm h6 hv hz _) (by omega) (by omega),bs,yN (by simp;omega),bs,zC (by omega) (by omega),bs,cs,K4 (by simpa using hi)];simp only[Jdd]) (by
  unfold zME;simp only
  rw[Jd,xP,zI,Jr (by simp)])
 rw[show((0:Nat):Int)=0 from rfl,K7]at this;rw[this,bs]
end
end Go.Pl

namespace Go.Pl
open Go Go.Ab Go.Wk Go.Pc
theorem zLO{a b:Int}(h:a=b):(a==b)=jc:=by simp[h]
theorem zLP{a b:Int}(h:a≠b):(a==b)=jd:=by simp[h]
end Go.Pl

namespace Go.Pl
open Go Go.Ab Go.Wk Go.Pc
theorem IsB.both{o o':Option Bool}{P:Prop}(h:IsB o P)(h':IsB o' P):(o=ja jc∧o'=ja jc∧P)∨(o=ja jd∧o'=ja jd∧ ¬P):=by
 rcases h with⟨h1,h2⟩|⟨h1,h2⟩<;>rcases h' with⟨h3,h4⟩|⟨h3,h4⟩
 ·exact .inl ⟨h1,h3,h2⟩
 ·exact absurd h2 h4
 ·exact absurd h4 h2
 ·exact .inr ⟨h1,h3,h2⟩
end Go.Pl

namespace Go.Pl
open Go Go.Ab Go.Wk Go.Pc
def Sp(p:Int)(n:Nat)(R:Mx)(v:List Int):Prop:=∃c:Nat→Int,∀j,j<n→(S R.length fun i=>c i*ent R i j)%p=at0 v j%p
section
variable {p:Int}{n:Nat}{R R':Mx}{u v w:List Int}
theorem qI{i:Nat}(hi:i<R.length):Sp p n R (R.getD i []):=by refine⟨fun l=>if l=i then 1 else 0,fun j _=>?_⟩;rw[zAe (k:=i) hi (fun l _ hl=>by simp[hl])];simp
theorem zBc{k:Int}(hv:Sp p n R v)(hw:Sp p n R w)(h:∀j,j<n→at0 u j%p=(at0 v j+k*at0 w j)%p):Sp p n R u:=by
 obtain⟨c,hc⟩:=hv;obtain⟨d,hd⟩:=hw;refine⟨fun i=>c i+k*d i,fun j hj=>?_⟩;have e:(S R.length fun i=>(c i+k*d i)*ent R i j)=(S R.length fun i=>c i*ent R i j)+k*(S R.length fun i=>d i*ent R i j):=by rw[←zCK,←zCJ];exact xI fun i _=>by rw[Qj,Hi]
 rw[e,h j hj,Ke,hc j hj,Jx,hd j hj,←Jx,←Ke]
theorem zEM(h:∀j,j<n→at0 u j%p=0):Sp p n R u:=by refine⟨fun _=>0,fun j hj=>?_⟩;rw[h j hj,xI (g:=fun _=>0) (fun i _=>by simp),qH];simp
theorem kQ(h:∀i,i<R.length→Sp p n R' (R.getD i []))(hv:Sp p n R v):Sp p n R' v:=by
 obtain⟨c,hc⟩:=hv;have key:∀m,m≤R.length→ ∃d:Nat→Int,∀j,j<n→(S R'.length fun i=>d i*ent R' i j)%p=(S m fun i=>c i*ent R i j)%p:=by
  intro m
  induction m with
  |zero=>intro _;exact⟨fun _=>0,fun j _=>by rw[xI (g:=fun _=>0) (fun i _=>by simp),qH];rfl⟩
  |succ m ih=>
   intro hm;obtain⟨d,hd⟩:=ih (by omega);obtain⟨e,he⟩:=h m (by omega);refine⟨fun i=>d i+c m*e i,fun j hj=>?_⟩;have e1:(S R'.length fun i=>(d i+c m*e i)*ent R' i j)=(S R'.length fun i=>d i*ent R' i j)+c m*(S R'.length fun i=>e i*ent R' i j):=by rw[←zCK,←zCJ];exact xI fun i _=>by rw[Qj,Hi]
   rw[e1,Ke,hd j hj,Jx,he j hj,←Jx,←Ke];rfl
 obtain⟨d,hd⟩:=key R.length (Jo _);exact⟨d,fun j hj=>by rw[hd j hj,hc j hj]⟩
end
def jG(p:Int)(n:Nat)(R R':Mx):Prop:=(∀i,i<R.length→Sp p n R' (R.getD i []))∧ ∀i,i<R'.length→Sp p n R (R'.getD i [])
theorem jG.refl{p:Int}{n:Nat}{R:Mx}:jG p n R R:=⟨fun _ h=>qI h,fun _ h=>qI h⟩
theorem jG.symm{p:Int}{n:Nat}{R R':Mx}(h:jG p n R R'):jG p n R' R:=⟨h.2,h.1⟩
theorem jG.trans{p:Int}{n:Nat}{R R' R2:Mx}(h:jG p n R R')(h':jG p n R' R2):jG p n R R2:=⟨fun i hi=>kQ h'.1 (h.1 i hi),fun i hi=>kQ h.2 (h'.2 i hi)⟩
theorem jG.iff{p:Int}{n:Nat}{R R':Mx}{v:List Int}(h:jG p n R R'):Sp p n R v↔Sp p n R' v:=⟨fun g=>kQ h.1 g,fun g=>kQ h.2 g⟩
structure Red (p:Int) (n:Nat) (R:Mx) (pv:Nat→Nat):Prop where
 row:∀i,i<R.length→Row p n (R.getD i [])
 lt:∀i,i<R.length→pv i<n
 one:∀i,i<R.length→ent R i (pv i)=1
 low:∀i,i<R.length→ ∀j,j<pv i→ent R i j=0
 off:∀i k,i<R.length→k<R.length→k≠i→ent R k (pv i)=0
 mono:∀i j,i<j→j<R.length→pv i<pv j
section
variable {p:Int} (hp:1<p) {n:Nat}{R R':Mx}{pv pv':Nat→Nat}{v:List Int}
theorem Red.coef(h:Red p n R pv){c:Nat→Int}(hc:∀j,j<n→(S R.length fun i=>c i*ent R i j)%p=at0 v j%p){k:Nat}(hk:k<R.length):c k%p=at0 v (pv k)%p:=by rw[←hc (pv k) (h.lt k hk),zAe (k:=k) hk (fun i hi gf=>by rw[h.off k i hk hi gf];simp),h.one k hk];simp
theorem Red.expand(h:Red p n R pv)(hv:Sp p n R v):∀j,j<n→at0 v j%p=(S R.length fun i=>at0 v (pv i)*ent R i j)%p:=by obtain⟨c,hc⟩:=hv;intro j hj;rw[←hc j hj];exact kP fun i hi=>by rw[Jx,h.coef hc hi,←Jx]
theorem Red.lead(h:Red p n R pv)(hv:Sp p n R v)(gf:∃j,j<n∧at0 v j%p≠0):∃i,i<R.length∧(∀j,j<pv i→at0 v j%p=0)∧at0 v (pv i)%p≠0:=by
 have hx:=h.expand hv;have h1:∃i,i<R.length∧at0 v (pv i)%p≠0:=by
  refine Classical.byContradiction fun hn=>?_
  obtain⟨j,hj,mc⟩:=gf;refine mc ?_;rw[hx j hj,kP (g:=fun _=>0) (fun i hi=>by
   have:at0 v (pv i)%p=0:=Classical.byContradiction fun h0=>hn ⟨i,hi,h0⟩
   rw[Jx,this];simp),qH];rfl
 obtain⟨i,⟨hi,fa⟩,eF⟩:=zBq h1;refine⟨i,hi,fun j hj=>?_,fa⟩;have a8:j<n:=Nat.lt_trans hj (h.lt i hi);rw[hx j a8,kP (g:=fun _=>0) (fun k hk=>by
  rcases Jk k i with hki|hki
  ·have:at0 v (pv k)%p=0:=Classical.byContradiction fun h0=>eF k hki ⟨hk,h0⟩
   rw[Jx,this];simp
  ·have h2:pv i≤pv k:=by
    rcases Jk i k with h3|h3
    ·exact Jcq (h.mono i k h3 hk)
    ·rw[show i=k from by omega];exact Jo _
   rw[h.low k hk j (by omega)];simp),qH];rfl
 include hp
theorem Red.row_lead(h:Red p n R pv){i:Nat}(hi:i<R.length):(∃j,j<n∧at0 (R.getD i []) j%p≠0)∧(∀j,j<pv i→at0 (R.getD i []) j%p=0)∧at0 (R.getD i []) (pv i)%p≠0:=by
 have h1:at0 (R.getD i []) (pv i)%p≠0:=by have:=h.one i hi;simp only[ent]at this;rw[this,Kj (by omega) hp];omega
 refine⟨⟨pv i,h.lt i hi,h1⟩,fun j hj=>?_,h1⟩;have:=h.low i hi j hj;simp only[ent]at this;rw[this];rfl
theorem Red.piv_in(h:Red p n R pv)(h':Red p n R' pv')(hs:∀i,i<R.length→Sp p n R' (R.getD i [])){i:Nat}(hi:i<R.length):∃k,k<R'.length∧pv' k=pv i:=by
 obtain⟨g1,g2,g3⟩:=h.row_lead hp hi;obtain⟨k,hk,g4,g5⟩:=h'.lead (hs i hi) g1;refine⟨k,hk,?_⟩;rcases Ge (pv' k) (pv i)with h1|h1|h1
 ·exact absurd (g2 _ h1) g5
 ·exact h1
 ·exact absurd (g4 _ h1) g3
theorem Red.piv_eq(h:Red p n R pv)(h':Red p n R' pv')(hs:jG p n R R'):∀i,(i<R.length↔i<R'.length)∧(i<R.length→pv i=pv' i):=by
 intro i
 induction i using Nat.strongRecOn with
 |_ i ih=>
  have a:i<R.length→i<R'.length∧pv' i≤pv i:=fun hi=>by
   obtain⟨k,hk,e⟩:=h.piv_in hp h' hs.1 hi;have hki:i≤k:=by
    refine Classical.byContradiction fun hn=>?_
    have h1:=(ih k (by omega)).2 (by omega);have h2:=h.mono k i (by omega) hi;omega
   refine⟨by omega,?_⟩;rcases Jk i k with h3|h3
   ·have:=h'.mono i k h3 hk;omega
   ·have da:i=k:=by omega
    subst da;omega
  have b:i<R'.length→i<R.length∧pv i≤pv' i:=fun hi=>by
   obtain⟨k,hk,e⟩:=h'.piv_in hp h hs.2 hi;have hki:i≤k:=by
    refine Classical.byContradiction fun hn=>?_
    have h1:=(ih k (by omega)).2 hk;have h2:=h'.mono k i (by omega) hi;omega
   refine⟨by omega,?_⟩;rcases Jk i k with h3|h3
   ·have:=h.mono i k h3 hk;omega
   ·have da:i=k:=by omega
    subst da;omega
  exact⟨⟨fun hi=>(a hi).1,fun hi=>(b hi).1⟩,fun hi=>by have:=(a hi).2;have:=(b (a hi).1).2;omega⟩
theorem Red.unique(h:Red p n R pv)(h':Red p n R' pv')(hs:jG p n R R'):R=R':=by
 have pg:=h.piv_eq hp h' hs;have hl:R.length=R'.length:=by
  rcases Ge R.length R'.length with g|g|g
  ·have:=(pg R.length).1.2 g;omega
  ·exact g
  ·have:=(pg R'.length).1.1 g;omega
 refine zHN (D:=R.length) rfl hl.symm fun i hi=>?_
 have fq:i<R'.length:=by omega
 have r1:=h.row i hi;have r2:=h'.row i fq;rw[vX r1.1,vX r2.1];refine zX fun j hj=>?_
 have hx:=h'.expand (hs.1 i hi) j hj;rw[xI (g:=fun k=>(if k=i then 1 else 0)*ent R' k j) (fun k hk=>by
  congr 1
  have e:=(pg k).2 (by omega)
  by_cases hki:k=i
  ·subst hki;rw[if_pos rfl,←e];exact h.one k hi
  ·rw[if_neg hki,←e];exact h.off k i (by omega) hi (Ne.symm hki)),zAe (k:=i) fq (fun k _ hk=>by simp[hk])]at hx
 simp only[if_true,Jaa,ent]at hx;have a1:=r1.2 j hj;have a2:=r2.2 j hj;rw[Kj a1.1 (by omega),Kj a2.1 (by omega)]at hx;exact hx
end
end Go.Pl

namespace Go.Pl
open Go Go.Ab Go.Wk Go.Pc
def mkR(m:Nat)(F:Nat→List Int):Mx:=(Jl m).map F
theorem sJ{m:Nat}{F:Nat→List Int}:(mkR m F).length=m:=by simp[mkR]
theorem kF{m:Nat}{F:Nat→List Int}{i:Nat}(h:i<m):(mkR m F).getD i []=F i:=by simp[mkR,J2,h]
theorem zKf{m:Nat}{F:Nat→List Int}{i:Nat}(h:i<m):ixO (mkR m F) (i:Int)=ja (F i):=by rw[yX [] (by rw[sJ];exact h),kF h]
theorem sY{m:Nat}{F G:Nat→List Int}(h:∀i,i<m→F i=G i):mkR m F=mkR m G:=by simp only[mkR];exact Qp fun i hi=>h i (Kv.1 hi)
theorem zXP{R:Mx}{m:Nat}(h:R.length=m):R=mkR m (fun i=>R.getD i []):=zHN (D:=m) h sJ fun i hi=>by rw[kF hi]
theorem zGD{m:Nat}{F:Nat→List Int}{i:Nat}{a:List Int}:(mkR m F).set i a=mkR m (fun k=>if k=i then a else F k):=by
 apply Ld;intro k
 by_cases hk:k<m
 ·by_cases h:i=k
  ·subst h;simp[mkR,hk]
  ·rw[Jak h];simp[mkR,hk,Ne.symm h]
 ·rw[K0 (by simp[mkR];omega),K0 (by simp[mkR];omega)]
theorem zEN{m:Nat}{F:Nat→List Int}{i j:Nat}(h:i<m):ent (mkR m F) i j=at0 (F i) j:=by simp only[ent,kF h]
theorem zSr{s:Nat→Int×Int×Int×Int}(n:Nat){r:Int×Int}(h:∀i,i<n→zQE (s i)=ja (.inl (s (i+1))))(he:zQE (s n)=ja (.inr r)){p q:Int}(hq:zK9 r.2 p=ja q)(h1:r.1=1)(hs:s 0=(p,(s 0).2.1,0,1)):
  f_O (s 0).2.1 p=ja (q,jc):=by
 unfold f_O;rw[←hs,zW s n h he,bs,hq,bs,h1];rfl
def zSs:List (Int×Int×Int×Int)→Nat→Int×Int×Int×Int:=fun l i=>l.getD i (0,0,0,0)
theorem tH(l:List (Int×Int×Int×Int))(n:Nat){r:Int×Int}(h:∀i,i<n→zQE (zSs l i)=ja (.inl (zSs l (i+1))))(he:zQE (zSs l n)=ja (.inr r)){p q x:Int}(hq:zK9 r.2 p=ja q)(h1:r.1=1)(hs:zSs l 0=(p,x,0,1)):
  f_O x p=ja (q,jc):=by
 have:=zSr (s:=zSs l) n h he hq h1 (by rw[hs]);rw[hs]at this;exact this
theorem lt1{P:Nat→Prop}(h0:P 0):∀i,i<1→P i:=fun i hi=>by rw[show i=0 from by omega];exact h0
theorem lt2{P:Nat→Prop}(h0:P 0)(h1:P 1):∀i,i<2→P i:=fun i hi=>by match i,hi with|0,_=>exact h0|1,_=>exact h1
theorem lt3{P:Nat→Prop}(h0:P 0)(h1:P 1)(h2:P 2):∀i,i<3→P i:=fun i hi=>by match i,hi with|0,_=>exact h0|1,_=>exact h1|2,_=>exact h2
theorem zEO{p x:Int}(hp:Prime p)(h0:1≤x)(h1:x≤p-1):∃r,f_O x p=ja (r,jc)∧0≤r∧r≤p-1∧(x*r)%p=1:=by
 have c:(p=2∧x=1)∨(p=3∧(x=1∨x=2))∨(p=5∧(x=1∨x=2∨x=3∨x=4))∨(p=7∧(x=1∨x=2∨x=3∨x=4∨x=5∨x=6)):=by unfold Prime at hp;omega
 rcases c with⟨rfl,rfl⟩|⟨rfl,rfl|rfl⟩|⟨rfl,rfl|rfl|rfl|rfl⟩|⟨rfl,rfl|rfl|rfl|rfl|rfl|rfl⟩
 ·exact⟨1,tH [(2,1,0,1),(1,0,1,-2)] 1 (lt1 (by decide+kernel)) (r:=(1,1)) (by decide+kernel) (by decide+kernel) rfl rfl,by decide,by decide,by decide⟩
 ·exact⟨1,tH [(3,1,0,1),(1,0,1,-3)] 1 (lt1 (by decide+kernel)) (r:=(1,1)) (by decide+kernel) (by decide+kernel) rfl rfl,by decide,by decide,by decide⟩
 ·exact⟨2,tH [(3,2,0,1),(2,1,1,-1),(1,0,-1,3)] 2 (lt2 (by decide+kernel) (by decide+kernel)) (r:=(1,-1)) (by decide+kernel) (by decide+kernel) rfl rfl,by decide,by decide,by decide⟩
 ·exact⟨1,tH [(5,1,0,1),(1,0,1,-5)] 1 (lt1 (by decide+kernel)) (r:=(1,1)) (by decide+kernel) (by decide+kernel) rfl rfl,by decide,by decide,by decide⟩
 ·exact⟨3,tH [(5,2,0,1),(2,1,1,-2),(1,0,-2,5)] 2 (lt2 (by decide+kernel) (by decide+kernel)) (r:=(1,-2)) (by decide+kernel) (by decide+kernel) rfl rfl,by decide,by decide,by decide⟩
 ·exact⟨2,tH [(5,3,0,1),(3,2,1,-1),(2,1,-1,2),(1,0,2,-5)] 3 (lt3 (by decide+kernel) (by decide+kernel) (by decide+kernel)) (r:=(1,2)) (by decide+kernel) (by decide+kernel) rfl rfl,by decide,by decide,by decide⟩
 ·exact⟨4,tH [(5,4,0,1),(4,1,1,-1),(1,0,-1,5)] 2 (lt2 (by decide+kernel) (by decide+kernel)) (r:=(1,-1)) (by decide+kernel) (by decide+kernel) rfl rfl,by decide,by decide,by decide⟩
 ·exact⟨1,tH [(7,1,0,1),(1,0,1,-7)] 1 (lt1 (by decide+kernel)) (r:=(1,1)) (by decide+kernel) (by decide+kernel) rfl rfl,by decide,by decide,by decide⟩
 ·exact⟨4,tH [(7,2,0,1),(2,1,1,-3),(1,0,-3,7)] 2 (lt2 (by decide+kernel) (by decide+kernel)) (r:=(1,-3)) (by decide+kernel) (by decide+kernel) rfl rfl,by decide,by decide,by decide⟩
 ·exact⟨5,tH [(7,3,0,1),(3,1,1,-2),(1,0,-2,7)] 2 (lt2 (by decide+kernel) (by decide+kernel)) (r:=(1,-2)) (by decide+kernel) (by decide+kernel) rfl rfl,by decide,by decide,by decide⟩
 ·exact⟨2,tH [(7,4,0,1),(4,3,1,-1),(3,1,-1,2),(1,0,2,-7)] 3 (lt3 (by decide+kernel) (by decide+kernel) (by decide+kernel)) (r:=(1,2)) (by decide+kernel) (by decide+kernel) rfl rfl,by decide,by decide,by decide⟩
 ·exact⟨3,tH [(7,5,0,1),(5,2,1,-1),(2,1,-1,3),(1,0,3,-7)] 3 (lt3 (by decide+kernel) (by decide+kernel) (by decide+kernel)) (r:=(1,3)) (by decide+kernel) (by decide+kernel) rfl rfl,by decide,by decide,by decide⟩
 ·exact⟨6,tH [(7,6,0,1),(6,1,1,-1),(1,0,-1,7)] 2 (lt2 (by decide+kernel) (by decide+kernel)) (r:=(1,-1)) (by decide+kernel) (by decide+kernel) rfl rfl,by decide,by decide,by decide⟩
end Go.Pl

namespace Go.Pl
open Go Go.Ab Go.Wk Go.Pc
structure zQg (p:Int) (n m:Nat) (rows:Mx) (c:Nat) (M:Mx) (d:Nat) (pv:Nat→Nat):Prop where
 len:M.length=m
 row:∀i,i<m→Row p n (M.getD i [])
 dm:d≤m
 lt:∀i,i<d→pv i<c
 one:∀i,i<d→ent M i (pv i)=1
 low:∀i,i<d→ ∀j,j<pv i→ent M i j=0
 off:∀i k,i<d→k<m→k≠i→ent M k (pv i)=0
 mono:∀i j,i<j→j<d→pv i<pv j
 zero:∀k,d≤k→k<m→ ∀j,j<c→ent M k j=0
 sp:jG p n M rows
theorem zBT{p:Int}{n m:Nat}{F:Nat→List Int}{i:Nat}(h:i<m):Sp p n (mkR m F) (F i):=by have:=qI (p:=p) (n:=n) (R:=mkR m F) (i:=i) (by rw[sJ];exact h);rw[kF h]at this;exact this
theorem zSt(a e r p:Int):a%p=((a+(0-e)*r)%p+e*r)%p:=by rw[Ke,Kc,←Ke,show a+(0-e)*r+e*r=a from by rw[Ja9,Ue];omega]
section
variable {p:Int} (hp:Prime p) {n m:Nat}{rows:Mx}{c:Nat}{M:Mx}{d:Nat}{pv:Nat→Nat} (h:zQg p n m rows c M d pv) (hc:c<n) (hd:d<m)
 include hp h hc hd
theorem zQg.pivot{t:Nat}(ht:d≤t)(aE:t<m)(gf:ent M t c≠0){q:Int}(hq:(ent M t c*q)%p=1):
  zQg p n m rows (c+1) (mkR m fun i=>if i=d then mkv n fun j=>(ent M t j*q)%p else tG p n (if i=t then M.getD d []else M.getD i []) (0-at0 (if i=t then M.getD d []else M.getD i []) c) (mkv n fun j=>(ent M t j*q)%p)) (d+1) (fun i=>if i=d then c else pv i):=by
 have h7:=hp.pos;have pr:∀j,j<n→at0 (mkv n fun j=>(ent M t j*q)%p) j=(ent M t j*q)%p:=fun j hj=>yE hj
 have p0:∀j,j<c→(ent M t j*q)%p=0:=fun j hj=>by rw[h.zero t ht aE j hj];simp
 have prow:Row p n (mkv n fun j=>(ent M t j*q)%p):=⟨yB _ _,fun j hj=>by have e1:=L7 (ent M t j*q) (show p≠0 by omega);have e2:=Kr (ent M t j*q) (show 0<p by omega);rw[pr j hj];omega⟩
 have hG:∀i,i<m→i≠d→Row p n (if i=t then M.getD d []else M.getD i []):=fun i hi _=>by
  split
  ·exact h.row d hd
  ·exact h.row i hi
 have eo:∀i j,i<m→i≠d→j<n→ent (mkR m fun i=>if i=d then mkv n fun j=>(ent M t j*q)%p else tG p n (if i=t then M.getD d []else M.getD i []) (0-at0 (if i=t then M.getD d []else M.getD i []) c) (mkv n fun j=>(ent M t j*q)%p)) i j=(at0 (if i=t then M.getD d []else M.getD i []) j+(0-at0 (if i=t then M.getD d []else M.getD i []) c)*((ent M t j*q)%p))%p:=fun i j hi eO hj=>by rw[zEN hi,if_neg eO,tG,yE hj,pr j hj]
 have el:∀i j,i<m→i≠d→j<c→ent (mkR m fun i=>if i=d then mkv n fun j=>(ent M t j*q)%p else tG p n (if i=t then M.getD d []else M.getD i []) (0-at0 (if i=t then M.getD d []else M.getD i []) c) (mkv n fun j=>(ent M t j*q)%p)) i j=at0 (if i=t then M.getD d []else M.getD i []) j:=fun i j hi eO hj=>by rw[eo i j hi eO (by omega),p0 j hj,Le,Hd];have:=(hG i hi eO).2 j (by omega);exact Kj this.1 (by omega)
 have ed:∀j,j<n→ent (mkR m fun i=>if i=d then mkv n fun j=>(ent M t j*q)%p else tG p n (if i=t then M.getD d []else M.getD i []) (0-at0 (if i=t then M.getD d []else M.getD i []) c) (mkv n fun j=>(ent M t j*q)%p)) d j=(ent M t j*q)%p:=fun j hj=>by rw[zEN hd,if_pos rfl,pr j hj]
 have ec:∀i,i<m→i≠d→ent (mkR m fun i=>if i=d then mkv n fun j=>(ent M t j*q)%p else tG p n (if i=t then M.getD d []else M.getD i []) (0-at0 (if i=t then M.getD d []else M.getD i []) c) (mkv n fun j=>(ent M t j*q)%p)) i c=0:=fun i hi eO=>by rw[eo i c hi eO hc,hq,Hq];rw[show at0 (if i=t then M.getD d []else M.getD i []) c+(0-at0 (if i=t then M.getD d []else M.getD i []) c)=0 from by omega];simp
 have fU:∀i,i<d→(if i=t then M.getD d []else M.getD i [])=M.getD i []:=fun i hi=>by rw[if_neg (by omega)]
 have mT:∀i,d≤i→i<m→ ∀j,j<c→at0 (if i=t then M.getD d []else M.getD i []) j=0:=fun i hi fa j hj=>by
  split
  ·exact h.zero d (Jo _) hd j hj
  ·exact h.zero i hi fa j hj
 refine⟨sJ,fun i hi=>?_,by omega,fun i hi=>?_,fun i hi=>?_,fun i hi j hj=>?_,fun i k hi hk eO=>?_,fun i j gP hj=>?_,fun k hk fg j hj=>?_,?_⟩
 ·rw[kF hi]
  split
  ·exact prow
  ·exact zA8 hp
 ·by_cases ew:i=d
  ·rw[if_pos ew];omega
  ·rw[if_neg ew];have:=h.lt i (by omega);omega
 ·by_cases ew:i=d
  ·subst ew;rw[if_pos rfl,ed c hc,hq]
  ·have h1:=h.lt i (by omega)
   rw[if_neg ew,el i _ (by omega) ew h1,fU i (by omega)];exact h.one i (by omega)
 ·by_cases ew:i=d
  ·subst ew
   rw[if_pos rfl]at hj;rw[ed j (by omega),p0 j hj]
  ·rw[if_neg ew]at hj
   have h1:=h.lt i (by omega);rw[el i j (by omega) ew (by omega),fU i (by omega)];exact h.low i (by omega) j hj
 ·by_cases ew:i=d
  ·subst ew
   rw[if_pos rfl];exact ec k hk eO
  ·have h1:=h.lt i (by omega)
   rw[if_neg ew]
   by_cases mO:k=d
   ·subst mO
    rw[ed _ (by omega),h.off i t (by omega) aE (by omega)];simp
   ·rw[el k _ hk mO h1]
    split
    ·exact h.off i d (by omega) hd (Ne.symm ew)
    ·exact h.off i k (by omega) hk eO
 ·by_cases hjd:j=d
  ·subst hjd
   rw[if_pos rfl,if_neg (by omega)];exact h.lt i (by omega)
  ·rw[if_neg hjd,if_neg (by omega)];exact h.mono i j gP (by omega)
 ·rcases Jk j c with hjc|hjc
  ·rw[el k j fg (by omega) hjc];exact mT k (by omega) fg j hjc
  ·rw[show j=c from by omega];exact ec k fg (by omega)
 ·refine jG.trans ⟨fun i hi=>?_,fun i hi=>?_⟩ h.sp
  ·rw[sJ]at hi
   rw[kF hi];have hr:Sp p n M (mkv n fun j=>(ent M t j*q)%p):=by
    refine zBc (k:=q) (zEM (u:=[]) fun j _=>by simp[at0]) (qI (R:=M) (i:=t) (by rw[h.len];exact aE)) fun j hj=>?_
    rw[pr j hj,Kc,Uf];simp[at0]
   split
   ·exact hr
   ·refine zBc (k:=0-at0 (if i=t then M.getD d []else M.getD i []) c) (v:=if i=t then M.getD d []else M.getD i []) ?_ hr fun j hj=>?_
    ·split
     ·exact qI (by rw[h.len];exact hd)
     ·exact qI (by rw[h.len];exact hi)
    ·rw[tG,yE hj,Kc]
  ·rw[h.len]at hi
   have hr:=zBT (p:=p) (n:=n) (m:=m) (F:=fun i=>if i=d then mkv n fun j=>(ent M t j*q)%p else tG p n (if i=t then M.getD d []else M.getD i []) (0-at0 (if i=t then M.getD d []else M.getD i []) c) (mkv n fun j=>(ent M t j*q)%p)) hd;simp only[if_true]at hr;have hg:∀k,k<m→k≠d→Sp p n (mkR m fun i=>if i=d then mkv n fun j=>(ent M t j*q)%p else tG p n (if i=t then M.getD d []else M.getD i []) (0-at0 (if i=t then M.getD d []else M.getD i []) c) (mkv n fun j=>(ent M t j*q)%p)) (if k=t then M.getD d []else M.getD k []):=fun k hk mO=>by
    have h1:=zBT (p:=p) (n:=n) (m:=m) (F:=fun i=>if i=d then mkv n fun j=>(ent M t j*q)%p else tG p n (if i=t then M.getD d []else M.getD i []) (0-at0 (if i=t then M.getD d []else M.getD i []) c) (mkv n fun j=>(ent M t j*q)%p)) hk;simp only[if_neg mO]at h1;refine zBc (k:=at0 (if k=t then M.getD d []else M.getD k []) c) h1 hr fun j hj=>?_
    rw[tG,yE hj,pr j hj];exact zSt _ _ _ _
   by_cases e6:i=t
   ·
    subst e6;refine zBc (k:=ent M i c) (zEM (u:=[]) fun j _=>by simp[at0]) hr fun j hj=>?_
    rw[pr j hj];have e1:(ent M i c*((ent M i j*q)%p))%p=(ent M i j*((ent M i c*q)%p))%p:=by
     rw[Jx,Kc,←Jx,Jx (ent M i j),Kc,←Jx]
     congr 1
     rw[←Hi,←Hi,Uf (ent M i c)]
    rw[show at0 ([]:List Int) j=0 from by simp[at0],Lp,e1,hq,Hq]
   ·by_cases ew:i=d
    ·subst ew
     have:=hg t aE (by omega);rw[if_pos rfl]at this;exact this
    ·have:=hg i hi ew
     rw[if_neg e6]at this;exact this
end
end Go.Pl

namespace Go.Pl
open Go Go.Ab Go.Wk Go.Pc
theorem zEi{v:List Int}(h:v.length≤1000000):f_H v=ja v:=by unfold f_H;rw[yN (by simp;omega),bs,Ji]
theorem zIA{rows:Mx}(hm:rows.length≤1000000)(hn:∀i,i<rows.length→(rows.getD i []).length≤1000000):zVI rows=ja rows:=by
 unfold zVI;have:=zW (body:=zM8 rows) (r:=rows) (fun i=>(rows.take i,(i:Int))) rows.length (fun i hi=>by
  unfold zM8;simp only
  rw[xD hi,zN,yX [] hi,bs,zEi (hn i hi),bs,yN (by simp;omega),bs,zC (by omega) (by omega),bs,cs,K4 hi,J2,J3 hi];rfl) (by
  unfold zM8;simp only
  rw[xP,zI,Lo])
 rw[show((0:Nat):Int)=0 from rfl,K7]at this;rw[this,bs]
theorem zQh{M:Mx}{d c m n:Nat}(hm:M.length=m)(hd:d≤m)(hmm:m≤1000000)(fQ:∀i,i<m→(M.getD i []).length=n)(hc:c<n):
  ∃t:Nat,d≤t∧t≤m∧zH (zIF (M,(d:Int),(c:Int))) (d:Int)=ja (t:Int)∧(∀k,d≤k→k<t→ent M k c=0)∧(t<m→ent M t c≠0):=by
 have key:∀k,k≤m-d→ ∃t:Nat,m-k≤t∧t≤m∧zH (zIF (M,(d:Int),(c:Int))) ((m-k:Nat):Int)=ja (t:Int)∧(∀q,m-k≤q→q<t→ent M q c=0)∧(t<m→ent M t c≠0):=by
  intro k
  induction k with
  |zero=>
   intro _;refine⟨m,by omega,Jo _,?_,fun q h1 h2=>by omega,fun h=>by omega⟩;rw[wA];unfold zIF;simp only
   rw[hm,show m-0=m from rfl,xP,zI]
  |succ k ih=>
   intro hk;obtain⟨t,h1,h2,h3,h4,h5⟩:=ih (by omega);have gz:m-(k+1)<m:=by omega
   by_cases hz:ent M (m-(k+1)) c=0
   ·refine⟨t,by omega,h2,?_,fun q q1 q2=>?_,h5⟩
    ·rw[wA]
     have e:zIF (M,(d:Int),(c:Int)) ((m-(k+1):Nat):Int)=ja (.inl ((m-k:Nat):Int)):=by
      unfold zIF;simp only
      rw[hm,xD gz,zN,yX [] (by omega),bs,yP (by rw[fQ _ gz];exact hc),bs,zLO hz,zN,zC (by omega) (by omega),bs,cs,show m-(k+1)+1=m-k from by omega]
     rw[e];exact h3
    ·rcases Jk (m-(k+1)) q with g|g
     ·exact h4 q (by omega) q2
     ·rw[show q=m-(k+1)from by omega];exact hz
   ·refine⟨m-(k+1),Jo _,by omega,?_,fun q q1 q2=>by omega,fun _=>hz⟩
    rw[wA];have e:zIF (M,(d:Int),(c:Int)) ((m-(k+1):Nat):Int)=ja (.inr ((m-(k+1):Nat):Int)):=by
     unfold zIF;simp only
     rw[hm,xD gz,zN,yX [] (by omega),bs,yP (by rw[fQ _ gz];exact hc),bs,zLP hz,zI]
    rw[e]
 obtain⟨t,h1,h2,h3,h4,h5⟩:=key (m-d) (Jo _);rw[show m-(m-d)=d from by omega]at h1 h3 h4;exact⟨t,h1,h2,h3,h4,h5⟩
section
variable {p:Int} (hp:Prime p) {n m:Nat}{M:Mx}{d c t:Nat}
 include hp
theorem zN5{F:Nat→List Int}{q:Int}{b:Bool}(hd:d<m)(hr:Row p n (F d))(hn:n≤1000000)(hq:0≤q∧q≤p-1){v:List Int}(hv:v.length=n){s:Mx×Int×Int}(hs:s.2.1=(d:Int)):
  zH (zM9 p s (q,b) v) (mkR m F,0)=ja (mkR m fun i=>if i=d then mkv n fun j=>(at0 (F d) j*q)%p else F i):=by
 have h7:=hp.pos;have:=zW (body:=zM9 p s (q,b) v) (r:=mkR m fun i=>if i=d then mkv n fun j=>(at0 (F d) j*q)%p else F i) (fun k=>(mkR m fun i=>if i=d then mkv n (fun j=>if j<k then(at0 (F d) j*q)%p else at0 (F d) j)else F i,(k:Int))) n (fun k hk=>by
  have a1:=hr.2 k hk;have a2:=zBR hp (k:=q) ⟨by omega,by omega⟩ a1;have a3:=U3 a1.1 hq.1;rw[Uf]at a2;unfold zM9;simp only
  rw[hv,xD hk,zN,hs,zKf hd];simp only[bs,if_true];rw[yP (by rw[yB];exact hk),yE hk,if_neg (by omega)];simp only[bs];rw[zC (by omega) (by omega)];simp only[bs,vS];rw[if_neg (by omega)];simp only[bs];rw[L4 a3,zC (by omega) (by omega)];simp only[bs,Je,cs];rw[zGD]
  congr 3
  refine sY fun i _=>?_
  by_cases hi:i=d
  ·rw[if_pos hi,if_pos hi,jF]
   refine zX fun j _=>?_
   by_cases hj:j=k
   ·subst hj;rw[if_pos rfl,if_pos (by omega)]
   ·rw[if_neg hj]
    by_cases mc:j<k
    ·rw[if_pos mc,if_pos (by omega)]
    ·rw[if_neg mc,if_neg (by omega)]
  ·rw[if_neg hi,if_neg hi,if_neg hi]) (by
  unfold zM9;simp only
  rw[hv,xP,zI]
  congr 2
  refine sY fun i _=>?_
  split
  ·exact zX fun j hj=>by rw[if_pos hj]
  ·rfl)
 rw[show((0:Nat):Int)=0 from rfl]at this;rw[←this]
 congr 2
 refine sY fun i _=>?_
 split
 ·rename_i e;subst e
  conv=>lhs;rw[vX hr.1]
  exact zX fun j _=>by rw[if_neg (by omega)]
 ·rfl
theorem zN6{F:Nat→List Int}(hd:d<m)(hc:c<n)(hr:∀i,i<m→Row p n (F i))(hn:n≤1000000)(hm:m≤1000000){r21:Mx}(hl:r21.length=m){s:Mx×Int×Int}(hs:s.2.1=(d:Int))(pe:s.2.2=(c:Int)):
  zH (zOc p s r21) (mkR m F,0)=ja (mkR m fun i=>if i=d then F d else tG p n (F i) (0-at0 (F i) c) (F d)):=by
 have h7:=hp.pos;have:=zW (body:=zOc p s r21) (r:=mkR m fun i=>if i=d then F d else tG p n (F i) (0-at0 (F i) c) (F d)) (fun k=>(mkR m fun i=>if i<k∧i≠d then tG p n (F i) (0-at0 (F i) c) (F d)else F i,(k:Int))) m (fun k hk=>by
  have a1:=(hr k hk).2 c hc;unfold zOc;simp only
  rw[hl,xD hk,zN,hs,pe]
  by_cases mO:k=d
  ·subst mO
   rw[zA5 rfl,zI,zC (by omega) (by omega),bs,cs]
   congr 3
   refine sY fun i _=>?_
   by_cases hi:i=k
   ·subst hi;rw[if_neg (by omega),if_neg (by omega)]
   ·by_cases fa:i<k
    ·rw[if_pos ⟨fa,hi⟩,if_pos ⟨by omega,hi⟩]
    ·rw[if_neg (by omega),if_neg (by omega)]
  ·rw[zAd (by omega),zN,zKf hk,zKf hd]
   simp only[bs,ne_eq,not_true_eq_false,and_false,if_false,Jc5,false_and];rw[yP (by rw[(hr k hk).1];exact hc)];simp only[bs];rw[zC (by omega) (by omega)];simp only[bs];rw[zAv hp (hr k hk) (hr d hd) (by omega) hn,bs,zC (by omega) (by omega)];simp only[bs,Je,cs];rw[zGD]
   congr 3
   refine sY fun i _=>?_
   by_cases hi:i=k
   ·subst hi;rw[if_pos rfl,if_pos ⟨by omega,mO⟩]
   ·rw[if_neg hi]
    by_cases fa:i<k∧ ¬i=d
    ·rw[if_pos fa,if_pos ⟨by omega,fa.2⟩]
    ·rw[if_neg fa,if_neg (by omega)]) (by
  unfold zOc;simp only
  rw[hl,xP,zI]
  congr 2
  refine sY fun i hi=>?_
  by_cases ew:i=d
  ·rw[if_pos ew,if_neg (by omega),ew]
  ·rw[if_neg ew,if_pos ⟨hi,ew⟩])
 rw[show((0:Nat):Int)=0 from rfl]at this;rw[←this]
 congr 2
end
end Go.Pl

namespace Go.Pl
open Go Go.Ab Go.Wk Go.Pc
theorem Red.empty{p:Int}{n:Nat}:Red p n [] (fun _=>0):=⟨fun _ h=>by simp at h,fun _ h=>by simp at h,fun _ h=>by simp at h,fun _ h=>by simp at h,fun _ _ h=>by simp at h,fun _ _ _ h=>by simp at h⟩
theorem zQg.take{p:Int}{n m:Nat}{rows:Mx}{c:Nat}{M:Mx}{d:Nat}{pv:Nat→Nat}(h:zQg p n m rows c M d pv)(dl:c≤n)(hz:∀k,d≤k→k<m→ ∀j,j<n→ent M k j=0):Red p n (M.take d) pv∧jG p n (M.take d) rows:=by
 have hl:(M.take d).length=d:=by rw[K3,h.len];exact Gl h.dm
 have hg:∀i,i<d→(M.take d).getD i []=M.getD i []:=fun i hi=>by simp only[J2,H5,if_pos hi]
 have dm:=h.dm;refine⟨⟨fun i hi=>?_,fun i hi=>?_,fun i hi=>?_,fun i hi j hj=>?_,fun i k hi hk gf=>?_,fun i j gP hj=>?_⟩,jG.trans ⟨fun i hi=>?_,fun i hi=>?_⟩ h.sp⟩
 ·rw[hl]at hi;rw[hg i hi];exact h.row i (by omega)
 ·rw[hl]at hi;have:=h.lt i hi;omega
 ·rw[hl]at hi;simp only[ent,hg i hi];exact h.one i hi
 ·rw[hl]at hi;simp only[ent,hg i hi];exact h.low i hi j hj
 ·rw[hl]at hi hk;simp only[ent,hg k hk];exact h.off i k hi (by omega) gf
 ·rw[hl]at hj;exact h.mono i j gP hj
 ·rw[hl]at hi;rw[hg i hi];exact qI (by rw[h.len];omega)
 ·rw[h.len]at hi
  rcases Jk i d with g|g
  ·have:=qI (p:=p) (n:=n) (R:=M.take d) (i:=i) (by rw[hl];exact g)
   rw[hg i g]at this;exact this
  ·exact zEM fun j hj=>by have:=hz i g hi j hj;simp only[ent]at this;rw[this];rfl
section
variable {p:Int} (hp:Prime p) {n:Nat}{rows:Mx} (hn:n≤100000) (hm:rows.length≤600000) (hr:∀i,i<rows.length→Row p n (rows.getD i []))
 include hp hn hm hr
theorem zLQ:∃R pv,f_j p rows=ja R∧Red p n R pv∧jG p n R rows:=by
 have h7:=hp.pos;unfold f_j;rw[zIA (by omega) (fun i hi=>by have:=(hr i hi).1;omega),bs];have main:=tE (body:=zOd p) (s:=(rows,0,0)) (Q:=fun r=> ∃(M:Mx)(d:Nat)(pv:Nat→Nat),r=(M,(d:Int))∧d≤M.length∧Red p n (M.take d) pv∧jG p n (M.take d) rows)
  (fun i s=> ∃(M:Mx)(d:Nat)(pv:Nat→Nat),s=(M,(d:Int),(i:Int))∧zQg p n rows.length rows i M d pv∧i≤n) n (fun c s hc hI=>?_) (fun s hI=>?_) ⟨rows,0,fun _=>0,rfl,⟨rfl,hr,Kn _,fun _ h=>by omega,fun _ h=>by omega,fun _ h=>by omega,fun _ _ h=>by omega,fun _ _ _ h=>by omega,fun _ _ _ _ h=>by omega,jG.refl⟩,Kn _⟩
 ·obtain⟨r,h1,M,d,pv,rfl,hd,hR,hS⟩:=main
  rw[h1,bs];simp only
  have e:yA M 0 (d:Int)=ja (M.take d):=by unfold yA;rw[if_pos ⟨by omega,by omega,by omega⟩];simp
  rw[e,bs];exact⟨_,_,rfl,hR,hS⟩
 ·
  obtain⟨M,d,pv,rfl,h,dl⟩:=hI;have hl:=h.len;have mr:=h.dm
  by_cases h0:rows.length=0
  ·refine .inr ⟨(M,(d:Int)),?_,M,d,pv,rfl,by omega,h.take dl fun k hk fg=>by omega⟩
   unfold zOd;simp only
   rw[je (by omega),zI]
  have e0:zOd p (M,(d:Int),(c:Int))=cond (decide ((d:Int)<(M.length:Int))) ((zH (zIF (M,(d:Int),(c:Int))) (d:Int)).bind fun r6=>
    cond (r6==(M.length:Int)) ((rng ((c:Int)+1)).bind fun v7=>ja (.inl (M,(d:Int),v7))) (
     (ixO M r6).bind fun v8=>(ixO M (d:Int)).bind fun v9=>(ixO (jK M (d:Int) r6 v8 v9) (d:Int)).bind fun v10=>(ixO v10 (c:Int)).bind fun v11=>(f_O v11 p).bind fun r12=>
     (ixO (jK M (d:Int) r6 v8 v9) (d:Int)).bind fun v13=>(zH (zM9 p (M,(d:Int),(c:Int)) r12 v13) (jK M (d:Int) r6 v8 v9,0)).bind fun r21=>
     (zH (zOc p (M,(d:Int),(c:Int)) r21) (r21,0)).bind fun r30=>(rng ((d:Int)+1)).bind fun v31=>(rng ((c:Int)+1)).bind fun v32=>ja (.inl (r30,v31,v32)))) (ja (.inr (M,(d:Int)))):=by
   unfold zOd;simp only
   have hx:ixO M (0:Int)=ja (M.getD 0 []):=by have:=yX (v:=M) (i:=0) [] (by omega);exact this
   rw[jf (by omega),zN,hx];simp only[bs];rw[(h.row 0 (by omega)).1,xD hc,zN]
  rcases Jk d rows.length with hd|hd
  ·obtain⟨t,t1,t2,t3,t4,t5⟩:=zQh (M:=M) (d:=d) (c:=c) (m:=rows.length) (n:=n) hl mr (by omega) (fun i hi=>(h.row i hi).1) hc
   rw[e0,hl,xD hd,zN,t3];simp only[bs]
   by_cases aE:t=rows.length
   ·
    left;refine⟨(M,(d:Int),((c+1:Nat):Int)),?_,M,d,pv,rfl,⟨hl,h.row,mr,fun i hi=>by have:=h.lt i hi;omega,h.one,h.low,h.off,h.mono,fun k k1 k2 j hj=>?_,h.sp⟩,by omega⟩
    ·rw[zLO (by omega),zN,zC (by omega) (by omega),bs,cs]
    ·rcases Jk j c with g|g
     ·exact h.zero k k1 k2 j g
     ·rw[show j=c from by omega];exact t4 k k1 (by omega)
   ·have cE:t<rows.length:=by omega
    have gf:=t5 cE;have fk:=h.row t cE;have hrc:=fk.2 c hc;obtain⟨q,q1,q2,q3,q4⟩:=zEO (p:=p) (x:=ent M t c) hp (by simp only[ent]at gf ⊢;omega) (by simp only[ent];omega);left;have hM:M=mkR rows.length (fun i=>M.getD i []):=zXP hl;obtain⟨F,hF⟩:∃F:Nat→List Int,∀i,F i=if i=t then M.getD d []else if i=d then M.getD t []else M.getD i []:=⟨_,fun _=>rfl⟩
    have mj:jK M (d:Int) (t:Int) (M.getD t []) (M.getD d [])=mkR rows.length F:=by
     unfold jK;rw[Je,Je]
     conv=>lhs;rw[hM]
     rw[zGD,zGD];exact sY fun i hi=>by rw[hF,kF hd,kF cE]
    have mH:∀i,i<rows.length→Row p n (F i):=fun i hi=>by
     rw[hF];split
     ·exact h.row d hd
     ·split
      ·exact fk
      ·exact h.row i hi
    have hFd:F d=M.getD t []:=by
     rw[hF]
     by_cases e:d=t
     ·rw[if_pos e,e]
     ·rw[if_neg e,if_pos rfl]
    obtain⟨G,hG⟩:∃G:Nat→List Int,∀i,G i=if i=d then mkv n fun j=>(at0 (F d) j*q)%p else F i:=⟨_,fun _=>rfl⟩
    have hGd:G d=mkv n fun j=>(ent M t j*q)%p:=by rw[hG,if_pos rfl,hFd]
    have hGo:∀i,i≠d→G i=if i=t then M.getD d []else M.getD i []:=fun i ew=>by rw[hG,if_neg ew,hF];simp only[ew,if_false]
    have tk:zH (zM9 p (M,(d:Int),(c:Int)) (q,jc) (M.getD t [])) (mkR rows.length F,0)=ja (mkR rows.length G):=by
     rw[zN5 hp (F:=F) hd (mH d hd) (by omega) ⟨q2,q3⟩ fk.1 rfl]
     congr 1
     exact sY fun i _=>(hG i).symm
    have hF3:∀i,i<rows.length→Row p n (G i):=fun i hi=>by
     rw[hG];split
     ·refine⟨yB _ _,fun j hj=>?_⟩
      have e1:=L7 (at0 (F d) j*q) (show p≠0 by omega);have e2:=Kr (at0 (F d) j*q) (show 0<p by omega);rw[yE hj];omega
     ·exact mH i hi
    have gG:=zN6 hp (c:=c) (F:=G) hd hc hF3 (by omega) (by omega) (r21:=mkR rows.length G) sJ (s:=(M,(d:Int),(c:Int))) rfl rfl;rw[zLP (by omega),zI,yX [] (by omega),yX [] (by omega)];simp only[bs];rw[mj,zKf hd,hFd];simp only[bs];rw[yP (by rw[fk.1];exact hc)];simp only[bs];rw[show at0 (M.getD t []) c=ent M t c from rfl,q1];simp only[bs];rw[tk];simp only[bs];rw[gG];simp only[bs];rw[zC (by omega) (by omega),zC (by omega) (by omega)];simp only[bs,cs];have bU:=h.pivot hp hc hd t1 cE gf q4;refine⟨_,rfl,_,d+1,fun i=>if i=d then c else pv i,rfl,?_,by omega⟩;have e3:(mkR rows.length fun i=>if i=d then G d else tG p n (G i) (0-at0 (G i) c) (G d))=(mkR rows.length fun i=>if i=d then mkv n fun j=>(ent M t j*q)%p else tG p n (if i=t then M.getD d []else M.getD i []) (0-at0 (if i=t then M.getD d []else M.getD i []) c) (mkv n fun j=>(ent M t j*q)%p)):=by
     refine sY fun i hi=>?_
     rw[hGd]
     by_cases ew:i=d
     ·rw[if_pos ew,if_pos ew]
     ·rw[if_neg ew,if_neg ew,hGo i ew]
    rw[e3];exact bU
  ·
   refine .inr ⟨(M,(d:Int)),?_,M,d,pv,rfl,by omega,h.take dl fun k hk fg=>by omega⟩;rw[e0,je (by omega),zI]
 ·
  obtain⟨M,d,pv,rfl,h,dl⟩:=hI;have hl:=h.len;have mr:=h.dm;refine⟨(M,(d:Int)),?_,M,d,pv,rfl,by omega,h.take dl fun k hk fg j hj=>h.zero k hk fg j hj⟩;unfold zOd;simp only
  by_cases h0:rows.length=0
  ·rw[je (by omega),zI]
  ·have hx:ixO M (0:Int)=ja (M.getD 0 []):=by
    have:=yX (v:=M) (i:=0) [] (by omega);exact this
   rw[jf (by omega),zN,hx];simp only[bs];rw[(h.row 0 (by omega)).1,xP,zI]
end
end Go.Pl

namespace Go.Pl
open Go Go.Ab Go.Wk Go.Pc
theorem zJp{v:List Int}{n:Nat}(hl:v.length=n)(hn:n≤1000000):∃k:Nat,k≤n∧f_B v=ja (k:Int)∧(∀j,j<k→at0 v j=0)∧(k<n→at0 v k≠0):=by
 unfold f_B;rcases chk (body:=zIG v) n 0 (Kn _) (fun i=>at0 v i=0) (fun i=>(i:Int)) (fun i _ hi _=>by
   unfold zIG;rw[hl,xD hi,zN,yP (by omega),bs]
   by_cases h:at0 v i=0
   ·rw[zA5 h,zI,zC (by omega) (by omega),bs,cs];exact .inl ⟨rfl,h⟩
   ·rw[zAd h,zN];exact .inr ⟨rfl,h⟩) (by
   unfold zIG;rw[hl,xP,zI])with⟨h1,h2⟩|⟨i,_,hi,h1,h2⟩
 ·rw[show((0:Nat):Int)=0 from rfl]at h1
  rw[h1,bs];exact⟨n,Jo _,by simp only[hl],fun j hj=>h2 j (Kn _) hj,fun h=>by omega⟩
 ·rw[show((0:Nat):Int)=0 from rfl]at h1
  rw[h1,bs];obtain⟨k,⟨hk1,fg⟩,eF⟩:=zBq (p:=fun k=>k<n∧at0 v k≠0) ⟨i,hi,h2⟩;have hz:∀j,j<k→at0 v j=0:=fun j hj=>Classical.byContradiction fun h=>eF j hj ⟨by omega,h⟩
  have hki:k=i:=by
   have eZ:∀q,q≤k→zH (zIG v) ((k-q:Nat):Int)=ja (.inr (k:Int)):=by
    intro q
    induction q with
    |zero=>
     intro _;rw[wA];have e:zIG v ((k-0:Nat):Int)=ja (.inr (.inr (k:Int))):=by unfold zIG;rw[show k-0=k from rfl,hl,xD hk1,zN,yP (by omega),bs,zAd fg,zN]
     rw[e]
    |succ q ih=>
     intro hq;rw[wA];have e:zIG v ((k-(q+1):Nat):Int)=ja (.inl ((k-q:Nat):Int)):=by unfold zIG;rw[hl,xD (by omega),zN,yP (by omega),bs,zA5 (hz _ (by omega)),zI,zC (by omega) (by omega),bs,cs,show k-(q+1)+1=k-q from by omega]
     rw[e];exact ih (by omega)
   have:=eZ k (Jo _);rw[Kq,show((0:Nat):Int)=0 from rfl,h1]at this;have:=Sum.inr.inj (L8.inj this);omega
  exact⟨i,by omega,rfl,by rw[←hki];exact hz,fun _=>h2⟩
theorem zKg{v:List Int}{n k:Nat}(hl:v.length=n)(hn:n≤1000000)(hk:k<n)(h0:∀j,j<k→at0 v j=0)(h1:at0 v k≠0):f_B v=ja (k:Int):=by
 obtain⟨q,q1,q2,q3,q4⟩:=zJp hl hn;have:q=k:=by
  rcases Ge q k with g|g|g
  ·exact absurd (h0 q g) (q4 (by omega))
  ·exact g
  ·exact absurd (q3 k g) h1
 rw[q2,this]
theorem zSu{p x:Int}(hp:Prime p)(h0:1≤x)(h1:x≤p-1):∃r,zVJ x p=ja r∧0≤r∧r≤p-1∧(x*r)%p=1:=by
 have h7:=hp.pos;have hx:∃k:Nat,1≤k∧(k:Int)<p∧(x*(k:Int))%p=1:=by
  obtain⟨r,_,r1,r2,r3⟩:=zEO hp h0 h1;refine⟨r.toNat,?_,by omega,by rw[Jde r1];exact r3⟩;rcases Int.lt_or_eq_of_le r1 with g|g
  ·omega
  ·rw[←g]at r3;simp at r3
 obtain⟨k,⟨k1,k2,k3⟩,eF⟩:=zBq hx;have body:∀i:Nat,1≤i→(i:Int)<p→zMA x p (i:Int)=cond ((x*(i:Int))%p==1) (ja (.inr (.inr (i:Int)))) (ja (.inl ((i+1:Nat):Int))):=fun i hi hip=>by
  have a3:=U3 (show 0≤x by omega) (show 0≤(i:Int)by omega);have a4:=zBR hp (k:=(i:Int)) ⟨by omega,by omega⟩ (b:=x) ⟨by omega,h1⟩;rw[Uf]at a4;unfold zMA;rw[jf hip,zN,zLN hp (by omega) (by omega),bs,Kj (by omega) (by omega),zC (by omega) (by omega),bs];unfold vS;rw[if_neg (by omega),bs,L4 a3]
  by_cases hh:(x*(i:Int))%p=1
  ·rw[zLO hh,zN,zN]
  ·rw[zLP hh,zI,zI,zC (by omega) (by omega),bs,cs]
 have eZ:∀q,q+1≤k→zH (zMA x p) ((k-q:Nat):Int)=ja (.inr (k:Int)):=by
  intro q
  induction q with
  |zero=>
   intro _;rw[wA,show k-0=k from rfl,body k k1 k2,zLO k3,zN]
  |succ q ih=>
   intro hq;have gf:(x*((k-(q+1):Nat):Int))%p≠1:=fun h=>eF (k-(q+1)) (by omega) ⟨by omega,by omega,h⟩
   rw[wA,body _ (by omega) (by omega),zLP gf,zI,show k-(q+1)+1=k-q from by omega];exact ih (by omega)
 have:=eZ (k-1) (by omega);rw[show k-(k-1)=1 from by omega,show((1:Nat):Int)=1 from rfl]at this;refine⟨(k:Int),?_,by omega,by omega,k3⟩;unfold zVJ;rw[this,bs]
section
variable {p:Int} (hp:Prime p) {n:Nat} (hn:n≤100000)
 include hp hn
theorem zXQ{r s:List Int}(hr:Row p n r):tG p n r p s=r:=by
 have _:=hp;have _:=hn
 conv=>rhs;rw[vX hr.1]
 refine zX fun j hj=>?_
 have:=hr.2 j hj;rw[H1];exact Kj this.1 (by omega)
def cl(p:Int)(n:Nat)(out:Mx)(pv:Nat→Nat)(v:List Int):Nat→List Int
 |0=>v
 |i+1=>tG p n (cl p n out pv v i) (p-at0 (cl p n out pv v i) (pv i)) (out.getD i [])
variable {out:Mx}{pv:Nat→Nat} (h:Red p n out pv) {v:List Int} (hv:Row p n v)
 include h hv
theorem zKh:∀i,Row p n (cl p n out pv v i):=by
 have _:=hn;have _:=h;intro i;cases i with
 |zero=>exact hv
 |succ i=>exact zA8 hp
theorem zXR:∀i,i≤out.length→ ∀k,k<i→at0 (cl p n out pv v i) (pv k)=0:=by
 have _:=hn;have _:=hv;have h7:=hp.pos;intro i
 induction i with
 |zero=>intro _ k hk;omega
 |succ i ih=>
  intro hi k hk;have gz:=h.lt k (by omega);rw[cl,tG,yE gz];rcases Jk k i with g|g
  ·have h1:=ih (by omega) k g
   have h2:=h.off k i (by omega) (by omega) (by omega);simp only[ent]at h2;rw[h1,h2];simp
  ·have hki:k=i:=by omega
   subst hki;have h2:=h.one k (by omega);simp only[ent]at h2;rw[h2,Hq,show at0 (cl p n out pv v k) (pv k)+(p-at0 (cl p n out pv v k) (pv k))=p from by omega,Int.emod_self]
theorem zVd:∀i,i≤out.length→ ∃cf:Nat→Int,∀j,j<n→at0 (cl p n out pv v i) j%p=(at0 v j+S out.length fun k=>cf k*ent out k j)%p:=by
 have _:=hp;have _:=h;have _:=hv;have _:=hn;intro i
 induction i with
 |zero=>intro _;exact⟨fun _=>0,fun j _=>by rw[xI (g:=fun _=>0) (fun i _=>by simp),qH,Hd];rfl⟩
 |succ i ih=>
  intro hi;obtain⟨cf,cP⟩:=ih (by omega);refine⟨fun k=>cf k+(if k=i then p-at0 (cl p n out pv v i) (pv i)else 0),fun j hj=>?_⟩;have e1:(S out.length fun k=>(cf k+(if k=i then p-at0 (cl p n out pv v i) (pv i)else 0))*ent out k j)=(S out.length fun k=>cf k*ent out k j)+(p-at0 (cl p n out pv v i) (pv i))*ent out i j:=by rw[xI (g:=fun k=>cf k*ent out k j+(if k=i then p-at0 (cl p n out pv v i) (pv i)else 0)*ent out k j) (fun k _=>by rw[Qj]),zCJ,zAe (f:=fun k=>(if k=i then p-at0 (cl p n out pv v i) (pv i)else 0)*ent out k j) (k:=i) (by omega) (fun k _ hk=>by simp[hk])];simp
  rw[e1,cl,tG,yE hj,Kc,←Jc9,Ke,cP j hj,←Ke]
theorem zHT(hm:out.length≤100000):f_X p out v=ja (cl p n out pv v out.length):=by
 have h7:=hp.pos;unfold f_X;rw[qO (by rw[hv.1];omega),bs];have:=zW (body:=zUd p out) (r:=cl p n out pv v out.length) (fun i=>(cl p n out pv v i,(i:Int))) out.length (fun i hi=>by
  have hr:=zKh hp hn h hv i;have ho:=h.row i hi;have gz:=h.lt i hi;have gp:=h.one i hi;have fU:=h.low i hi;simp only[ent]at gp fU;have he:=hr.2 (pv i) gz;unfold zUd;simp only
  rw[xD hi,zN,yX [] hi,bs,zKg ho.1 (by omega) gz fU (by rw[gp];decide),bs,hr.1,xD gz,zN,yP (by rw[hr.1];exact gz),bs]
  by_cases hz:at0 (cl p n out pv v i) (pv i)=0
  ·rw[zA5 hz,zI,zC (by omega) (by omega),bs,cs,cl,hz,Jcs,zXQ hp hn hr]
  ·rw[zAd hz,zN,bs,zC (by omega) (by omega),bs,bs,tO hp hr ho ⟨by omega,by omega⟩ (by omega),bs,zC (by omega) (by omega),bs,cs]
   rfl) (by
  unfold zUd;simp only
  rw[xP,zI])
 rw[show((0:Nat):Int)=0 from rfl]at this;simp only[cl]at this;rw[this,bs]
end
end Go.Pl

namespace Go.Pl
open Go Go.Ab Go.Wk Go.Pc
section
variable {p:Int} (hp:Prime p) {n:Nat}{out:Mx}{pv:Nat→Nat} (h:Red p n out pv) {u:List Int}{k q:Nat} (hu:Row p n u) (hk:k<n) (u1:at0 u k=1) (ul:∀j,j<k→at0 u j=0) (up:∀i,i<out.length→at0 u (pv i)=0) (hq:q≤out.length) (q1:∀i,i<q→pv i<k) (q2:∀i,q≤i→i<out.length→k<pv i)
def oth(p:Int)(n:Nat)(out:Mx)(u:List Int)(k i:Nat):List Int:=tG p n (out.getD i []) (p-at0 (out.getD i []) k) u
def sN(p:Int)(n:Nat)(out:Mx)(u:List Int)(k q i:Nat):List Int:=if i<q then oth p n out u k i else if i=q then u else oth p n out u k (i-1)
def zVe(pv:Nat→Nat)(k q i:Nat):Nat:=if i<q then pv i else if i=q then k else pv (i-1)
 include hp h hu hk u1 ul up hq q1 q2
theorem zN7{i j:Nat}(hj:j<n):at0 (oth p n out u k i) j=(at0 (out.getD i []) j-at0 (out.getD i []) k*at0 u j)%p:=by have _:=hp;have _:=h;have _:=hu;have _:=hk;have _:=u1;have _:=ul;have _:=up;have _:=hq;have _:=q1;have _:=q2;rw[oth,tG,yE hj,show at0 (out.getD i []) j+(p-at0 (out.getD i []) k)*at0 u j=at0 (out.getD i []) j-at0 (out.getD i []) k*at0 u j+p*at0 u j from by rw[Ja9];omega,H1]
theorem zEP{i j:Nat}(hi:i<out.length)(hj:j<n)(hz:at0 (out.getD i []) k=0∨at0 u j=0):at0 (oth p n out u k i) j=ent out i j:=by
 rw[zN7 hp h hu hk u1 ul up hq q1 q2 hj];have:=(h.row i hi).2 j hj;have e:at0 (out.getD i []) k*at0 u j=0:=by rcases hz with g|g<;>rw[g]<;>simp
 rw[e,Jcs];exact Kj this.1 (by omega)
theorem yAf{i:Nat}:at0 (oth p n out u k i) k=0:=by rw[zN7 hp h hu hk u1 ul up hq q1 q2 hk,u1,Hq,Int.sub_self];rfl
theorem zVf{i j:Nat}(hi:i<out.length)(hj:j<pv i)(gf:pv i≠k):at0 (oth p n out u k i) j=0:=by
 have gz:=h.lt i hi;rcases Jk (pv i) k with g|g
 ·rw[zEP hp h hu hk u1 ul up hq q1 q2 hi (by omega) (.inr (ul j (by omega)))];exact h.low i hi j hj
 ·have:=h.low i hi k (by omega)
  rw[zEP hp h hu hk u1 ul up hq q1 q2 hi (by omega) (.inl this)];exact h.low i hi j hj
theorem yAg{i:Nat}(hi:i<out.length):pv i≠k:=by have _:=h;have _:=q1;have _:=q2;have _:=hp;have _:=hu;have _:=hk;have _:=ul;have _:=hq;intro e;have:=up i hi;rw[e,u1]at this;cases this
theorem zJq{i:Nat}(hi:i<out.length+1):(i=q∧sN p n out u k q i=u∧zVe pv k q i=k)∨ ∃a,a<out.length∧(i<q∧a=i∨q<i∧i=a+1)∧sN p n out u k q i=oth p n out u k a∧zVe pv k q i=pv a:=by
 have _:=hp;have _:=h;have _:=hu;have _:=hk;have _:=u1;have _:=ul;have _:=up;have _:=q1;have _:=q2;unfold sN zVe;rcases Ge i q with g|g|g
 ·exact .inr ⟨i,by omega,.inl ⟨g,rfl⟩,by rw[if_pos g],by rw[if_pos g]⟩
 ·exact .inl ⟨g,by rw[if_neg (by omega),if_pos g],by rw[if_neg (by omega),if_pos g]⟩
 ·exact .inr ⟨i-1,by omega,.inr ⟨g,by omega⟩,by rw[if_neg (by omega),if_neg (by omega)],by rw[if_neg (by omega),if_neg (by omega)]⟩
theorem zN8:Red p n (mkR (out.length+1) (sN p n out u k q)) (zVe pv k q):=by
 have nc:=fun i hi=>zJq hp h hu hk u1 ul up hq q1 q2 (i:=i) hi
 have pn:=fun i hi=>yAg hp h hu hk u1 ul up hq q1 q2 (i:=i) hi
 refine⟨fun i hi=>?_,fun i hi=>?_,fun i hi=>?_,fun i hi j hj=>?_,fun i j hi hj gf=>?_,fun i j gP hj=>?_⟩<;>rw[sJ]at*
 ·rw[kF hi]
  rcases nc i hi with⟨_,e,_⟩|⟨a,_,_,e,_⟩<;>rw[e]
  ·exact hu
  ·exact zA8 hp
 ·rcases nc i hi with⟨_,_,e⟩|⟨a,ha,_,_,e⟩<;>rw[e]
  ·exact hk
  ·exact h.lt a ha
 ·rw[zEN hi]
  rcases nc i hi with⟨_,e1,e2⟩|⟨a,ha,_,e1,e2⟩<;>rw[e1,e2]
  ·exact u1
  ·rw[zEP hp h hu hk u1 ul up hq q1 q2 ha (h.lt a ha) (.inr (up a ha))];exact h.one a ha
 ·rw[zEN hi]
  rcases nc i hi with⟨_,e1,e2⟩|⟨a,ha,_,e1,e2⟩<;>rw[e2]at hj<;>rw[e1]
  ·exact ul j hj
  ·exact zVf hp h hu hk u1 ul up hq q1 q2 ha hj (pn a ha)
 ·rw[zEN hj]
  rcases nc i hi with⟨g1,_,e2⟩|⟨a,ha,ga,_,e2⟩<;>rw[e2]<;>rcases nc j hj with⟨g3,e3,_⟩|⟨b,hb,gb,e3,_⟩<;>rw[e3]
  ·omega
  ·exact yAf hp h hu hk u1 ul up hq q1 q2
  ·exact up a ha
  ·rw[zEP hp h hu hk u1 ul up hq q1 q2 hb (h.lt a ha) (.inr (up a ha))]
   exact h.off a b ha hb (by omega)
 ·rcases nc i (by omega)with⟨g1,_,e2⟩|⟨a,ha,ga,_,e2⟩<;>rw[e2]<;>rcases nc j hj with⟨g3,_,e4⟩|⟨b,hb,gb,_,e4⟩<;>rw[e4]
  ·omega
  ·exact q2 b (by omega) hb
  ·exact q1 a (by omega)
  ·exact h.mono a b (by omega) hb
theorem zQi:(∀i,i<out.length+1→Sp p n (out++[u]) (sN p n out u k q i))∧(∀i,i<out.length→Sp p n (mkR (out.length+1) (sN p n out u k q)) (out.getD i []))∧Sp p n (mkR (out.length+1) (sN p n out u k q)) u:=by
 have f8:Sp p n (out++[u]) u:=by have:=qI (p:=p) (n:=n) (R:=out++[u]) (i:=out.length) (by simp);simpa[J2]using this
 have hol:∀i,i<out.length→Sp p n (out++[u]) (out.getD i []):=fun i hi=>by have:=qI (p:=p) (n:=n) (R:=out++[u]) (i:=i) (by simp;omega);simpa[J2,Jm hi]using this
 have iq:∀i,i<out.length→Sp p n (out++[u]) (oth p n out u k i):=fun i hi=>
  zBc (k:=p-at0 (out.getD i []) k) (hol i hi) f8 fun j hj=>by rw[oth,tG,yE hj,Kc]
 have aI:Sp p n (mkR (out.length+1) (sN p n out u k q)) u:=by have:=zBT (p:=p) (n:=n) (m:=out.length+1) (F:=sN p n out u k q) (i:=q) (by omega);rw[show sN p n out u k q q=u from by unfold sN;rw[if_neg (by omega),if_pos rfl]]at this;exact this
 refine⟨fun i hi=>?_,fun i hi=>?_,aI⟩
 ·rcases zJq hp h hu hk u1 ul up hq q1 q2 hi with⟨_,e,_⟩|⟨a,ha,_,e,_⟩<;>rw[e]
  ·exact f8
  ·exact iq a ha
 ·have fa:∃b,b<out.length+1∧sN p n out u k q b=oth p n out u k i:=by
   rcases Jk i q with g|g
   ·exact⟨i,by omega,by unfold sN;rw[if_pos g]⟩
   ·exact⟨i+1,by omega,by unfold sN;rw[if_neg (by omega),if_neg (by omega)];rfl⟩
  obtain⟨b,hb,e⟩:=fa;have h1:=zBT (p:=p) (n:=n) (m:=out.length+1) (F:=sN p n out u k q) hb;rw[e]at h1;refine zBc (k:=at0 (out.getD i []) k) h1 aI fun j hj=>?_
  rw[zN7 hp h hu hk u1 ul up hq q1 q2 hj,Ke,Kc,←Ke,show at0 (out.getD i []) j-at0 (out.getD i []) k*at0 u j+at0 (out.getD i []) k*at0 u j=at0 (out.getD i []) j from by omega]
theorem zLR(hn:n≤100000)(hm:out.length≤100000){x:Int}:
  ((zH (zIH p (out,x) (k:Int) u) ([],jd,0)).bind fun r32=>cond (!r32.2) ((xK r32.1 [u]).bind fun v33=>ja v33) (ja r32.1))=ja (mkR (out.length+1) (sN p n out u k q)):=by
 have _:=u1;have _:=ul;have _:=up;have h7:=hp.pos;have ho:∀i,i<out.length→f_x p (out.getD i []) (p-at0 (out.getD i []) k) u=ja (oth p n out u k i)∧ixO (out.getD i []) (k:Int)=ja (at0 (out.getD i []) k)∧0≤at0 (out.getD i []) k∧at0 (out.getD i []) k≤p-1∧f_B (out.getD i [])=ja (pv i:Int):=fun i hi=>by have hr:=h.row i hi;have fg:=hr.2 k hk;have gp:=h.one i hi;have fU:=h.low i hi;simp only[ent]at gp fU;exact⟨by rw[tO hp hr hu ⟨by omega,by omega⟩ (by omega)];rfl,yP (by rw[hr.1];exact hk),fg.1,fg.2,zKg hr.1 (by omega) (h.lt i hi) fU (by rw[gp];decide)⟩
 have aJ:∀{m:Nat}{F:Nat→List Int},mkR m F++[F m]=mkR (m+1) F:=fun{m F}=>by simp[mkR,Lr]
 have:=zW (body:=zIH p (out,x) (k:Int) u) (r:=(if out.length≤q then(mkR out.length (sN p n out u k q),jd)else(mkR (out.length+1) (sN p n out u k q),jc)))
  (fun j=>if j≤q then(mkR j (sN p n out u k q),jd,(j:Int))else(mkR (j+1) (sN p n out u k q),jc,(j:Int))) out.length (fun j hj=>by
   obtain⟨a1,a2,a3,a4,a5⟩:=ho j hj;have ui:rng (p-at0 (out.getD j []) k)=ja (p-at0 (out.getD j []) k):=zC (by omega) (by omega);rcases Ge j q with g|g|g
   ·have hpj:=q1 j g
    rw[if_pos (by omega),if_pos (by omega)];unfold zIH;simp only
    rw[xD hj,zN,Kg,zN,yX [] hj];simp only[bs,a5];rw[je (by omega),zI,a2];simp only[bs,ui,a1];rw[yN (by rw[sJ];simp;omega),bs,zC (by omega) (by omega),bs,cs];have:sN p n out u k q j=oth p n out u k j:=by unfold sN;rw[if_pos g]
    rw[←this,aJ]
   ·subst g
    have hpj:=q2 j (Jo _) hj;rw[if_pos (by omega),if_neg (by omega)];unfold zIH;simp only
    rw[xD hj,zN,Kg,zN,yX [] hj];simp only[bs,a5];rw[jf (by omega),zN,yN (by rw[sJ];simp;omega),a2];simp only[bs,ui,a1];have e1:sN p n out u k j j=u:=by unfold sN;rw[if_neg (by omega),if_pos rfl]
    have e2:sN p n out u k j (j+1)=oth p n out u k j:=by unfold sN;rw[if_neg (by omega),if_neg (by omega)];rfl
    have e3:mkR j (sN p n out u k j)++[u]=mkR (j+1) (sN p n out u k j):=by rw[←aJ,e1]
    rw[e3,yN (by rw[sJ];simp;omega),bs,zC (by omega) (by omega),bs,cs,←e2,aJ]
   ·rw[if_neg (by omega),if_neg (by omega)]
    unfold zIH;simp only
    rw[xD hj,zN,Ka,zI,yX [] hj];simp only[bs,a2,ui,a1];have e2:sN p n out u k q (j+1)=oth p n out u k j:=by unfold sN;rw[if_neg (by omega),if_neg (by omega)];rfl
    rw[yN (by rw[sJ];simp;omega),bs,zC (by omega) (by omega),bs,cs,←e2,aJ]) (by
   by_cases g:out.length≤q
   ·rw[if_pos g,if_pos g]
    unfold zIH;simp only
    rw[xP,zI]
   ·rw[if_neg g,if_neg g]
    unfold zIH;simp only
    rw[xP,zI])
 rw[if_pos (Kn _),show((0:Nat):Int)=0 from rfl,show mkR 0 (sN p n out u k q)=[]from rfl]at this;rw[this,bs]
 by_cases g:out.length≤q
 ·have e1:sN p n out u k q out.length=u:=by unfold sN;rw[if_neg (by omega),if_pos (by omega)]
  rw[if_pos g];simp only
  rw[Kg,zN,yN (by rw[sJ];simp;omega),bs]
  congr 1
  rw[←aJ,e1]
 ·rw[if_neg g]
  simp only
  rw[Ka,zI]
end
end Go.Pl
