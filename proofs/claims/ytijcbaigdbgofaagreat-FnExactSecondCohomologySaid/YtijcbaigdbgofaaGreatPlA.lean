/- The program's SecondCohomology returns what the reference's returns,for all arguments;no conditions. -/
import Derived.Test.YtijcbaigdbgofaaGreatAbB
import Derived.Test.YtijcbaigdbgofaaGreatWF
open List renaming replicate→J1,getD_eq_getElem?_getD→J2,getElem?_eq_getElem→J4,length_append→J6,length_cons→J7,mem_cons→J8,getElem?_append_right→J9,append_assoc→Jc,mem_append→Jd,append_nil→Je,length_replicate→Jf,range→Jg,length_map→Jh,replicate_append_replicate→Jk,mem_map→Jm,getElem?_eq_some_iff→Jn,map_cons→Jo,replicate_succ→Jp,take_of_length_le→Jr,nil_append→Jt,getElem?_append_left→Ju,take_succ_eq_append_getElem→Jw,length_nil→Jx,length_drop→Jz,getElem?_map→K0,cons_append→K1,getElem?_eq_none→K6,take_zero→K8,getElem_mem→K9,length_take→Ka,eq_of_mem_replicate→Kb,getElem?_replicate→Ke,getElem?_append→Kk,mem_range→Kq,range'→Ku,ext_getElem?→Kv,mem_iff_getElem→L6,map_append→L7,take_succ_cons→Ld,range_eq_range'→Lh,length_range→Li,eq_nil_of_length_eq_zero→Ll,range_succ→Lp,replicate_succ'→Lu,mem_flatMap→Lw,singleton_append→H1,set_cons_zero→H2,getElem?_drop→He,getD_cons_zero→Hf,replicate_zero→Hk,flatten_nil→Ht,foldl_append→Gm,map_nil→Gv,drop_zero→U9,set_append_right→Ud,getElem?_cons_succ→Ue,drop_eq_getElem_cons→Uf,getD_cons_succ→Uz,all_cons→Q0,getElem?_set_ne→Q3,map_congr_left→Q9,flatMap_append→Qk,getElem?_cons_zero→Qm,take_length→Qt,suffix_cons_iff→Jae,map_map→Jaf,range_succ_eq_map→Jaq,not_mem_nil→Jar,drop_of_length_le→Jau,take_append_drop→Jb0,length→Jba,findSome?_cons→Jbf,getElem?_set→Jbm,getElem?_take→Jcc,range'_succ→Jcr
open Bool renaming and_eq_true→J3,not_true→K7,not_false→Kr
open Int renaming toNat_natCast→Ja,mul_emod→Jq,emod_emod→Jy,emod_eq_of_lt→K5,add_emod→Kc,emod_lt_of_pos→Kg,tmod_eq_emod_of_nonneg→Kw,emod_nonneg→Kx,mul_zero→Lb,mul_le_mul→Lm,add_mul_emod_self_left→Ln,zero_add→Lo,mul_one→Lt,add_zero→Ly,mul_assoc→H5,mul_nonneg→G3,mul_comm→Gi,toNat_zero→Gl,add_emod_right→U0,zero_mul→Qh,mul_le_mul_of_nonneg_left→Qn,add_mul→Qo,tmod_add_mul_tdiv→Jai,sub_mul→Jan,tmod_lt_of_pos→Jb2,lt_tmod_of_pos→Jb3,one_mul→Jbi,tmod→Jbn,sub_zero→Jca,mul_add→Jck,toNat_of_nonneg→Jcs
open Nat renaming zero_add→Jb,le_refl→Ji,lt_or_ge→Jj,sub_self→Kl,zero_le→Km,le_trans→H8,lt_trichotomy→Hl,div_add_mod→U7,add_zero→Qd,min_eq_left→Qs,sub_zero→Jb5,lt_irrefl→Jbk,zero_sub→Jc9
open Option renaming map_eq_some_iff→Kj,some→Lq,map_some→H0,getD_some→Q8
open Option renaming some→i7,none→i8
open Bool renaming true→i9,false→ia
namespace Go.Pc
abbrev Vec:=List Int
structure Lvl where
 o:Int
 w:Vec
 cs:List Vec
abbrev Pcp:=List Lvl
def zeros(n:Nat):Vec:=J1 n 0
def iter{α:Type}:Nat→(α→α)→α→α
 |0,_,x=>x
 |n+1,f,x=>iter n f (f x)
theorem vB{α:Type}(f:α→α):∀(n:Nat)(x:α),iter (n+1) f x=f (iter n f x)
 |0,_=>rfl
 |n+1,x=>by rw[iter,vB f n (f x)];rfl
theorem zE1{α:Type}(f:α→α)(a:Nat):∀(b:Nat)(x:α),iter (a+b) f x=iter a f (iter b f x)
 |0,_=>rfl
 |b+1,x=>by show iter (a+b) f (f x)=_;rw[zE1 f a b (f x)];rfl
def img{α:Type}(m:α→α→α):List α→Vec→α→α
 |c::cs,x::xs,acc=>img m cs xs (iter x.toNat (fun v=>m v c) acc)
 |_,_,acc=>acc
def V:Pcp→Vec→Prop
 | [],v=>v=[]
 |l::P,v=>match v with
  | []=>False
  |a::x=>(0≤a∧a<l.o)∧V P x
def mul:Pcp→Vec→Vec→Vec
 |l::P,a::x,b::y=>
  let r:=mul P (iter b.toNat (fun v=>img (mul P) l.cs v (zeros P.length)) x) y
  if a+b≥l.o then(a+b-l.o)::mul P l.w r else(a+b)::r
 |_,_,_=>[]
def Ok:Pcp→Prop
 | []=>True
 |l::P=>1<l.o∧V P l.w∧l.cs.length=P.length∧(∀c∈l.cs,V P c)∧Ok P
structure Mon {α:Type} (S:α→Prop) (m:α→α→α) (e:α):Prop where
 cl:∀{a b},S a→S b→S (m a b)
 ein:S e
 assoc:∀{a b c},S a→S b→S c→m (m a b) c=m a (m b c)
 onel:∀{a},S a→m e a=a
 oner:∀{a},S a→m a e=a
structure Grp {α:Type} (S:α→Prop) (m:α→α→α) (e:α):Prop extends Mon S m e where
 inv:∀{a},S a→ ∃b,S b∧m a b=e
theorem Grp.invl{α:Type}{S:α→Prop}{m:α→α→α}{e:α}(h:Grp S m e){a:α}(ha:S a):∃b,S b∧m a b=e∧m b a=e:=by
 obtain⟨b,hb,h1⟩:=h.inv ha;obtain⟨c,hc,h2⟩:=h.inv hb;refine⟨b,hb,h1,?_⟩;have:a=c:=by rw[←h.oner ha,←h2,←h.assoc ha hb hc,h1,h.onel hc]
 grind
theorem Grp.cancel_l{α:Type}{S:α→Prop}{m:α→α→α}{e:α}(h:Grp S m e){a b c:α}(ha:S a)(hb:S b)(hc:S c)(hh:m a b=m a c):b=c:=by obtain⟨d,hd,_,h2⟩:=h.invl ha;rw[←h.onel hb,←h.onel hc,←h2,h.assoc hd ha hb,h.assoc hd ha hc,hh]
section
variable {α:Type}{S:α→Prop}{m:α→α→α}{e:α}
def pw(m:α→α→α)(e:α)(x:α)(k:Nat):α:=iter k (fun v=>m v x) e
theorem tI(h:Mon S m e){x:α}(hx:S x):∀k,S (pw m e x k)
 |0=>h.ein
 |k+1=>by rw[pw,vB];exact h.cl (tI h hx k) hx
theorem vL{f:α→α}(hf:∀a,S a→S (f a)):∀(k:Nat){x:α},S x→S (iter k f x)
 |0,_,hx=>hx
 |k+1,_,hx=>vL hf k (hf _ hx)
theorem zE2(h:Mon S m e){x a:α}(hx:S x)(ha:S a):∀k,iter k (fun v=>m v x) a=m a (pw m e x k)
 |0=>(h.oner ha).symm
 |k+1=>by rw[vB,zE2 h hx ha k];show _=m a (iter (k+1) (fun v=>m v x) e);rw[vB];exact h.assoc ha (tI h hx k) hx
theorem zHm(h:Mon S m e){x:α}(hx:S x)(a b:Nat):pw m e x (a+b)=m (pw m e x a) (pw m e x b):=by rw[Nat.add_comm,pw,zE1,←zE2 h hx (tI h hx a) b];rfl
theorem zRo(h:Mon S m e){x:α}(hx:S x):pw m e x 1=x:=h.onel hx
theorem zRp(h:Mon S m e){x:α}(hx:S x)(k:Nat):pw m e x (k+1)=m x (pw m e x k):=by rw[Nat.add_comm,zHm h hx 1 k,zRo h hx]
theorem qO(h:∀{a b},S a→S b→S (m a b)):∀(cs:List α)(x:Vec){a:α},(∀c∈cs,S c)→S a→S (img m cs x a)
 |c::cs,x::xs,_,hc,ha=>by simp only[img];exact qO h cs xs (by grind) (vL (by simp_all) _ ha)
 | [],_,_,_,ha=>by grind[img]
 |_::_,[],_,_,ha=>by grind[img]
theorem zFs(h:Mon S m e)(cs:List α)(x:Vec){a:α}(hc:∀c∈cs,S c)(ha:S a):S (img m cs x a):=qO h.cl cs x hc ha
theorem zE3(h:Mon S m e):∀(cs:List α)(x:Vec){a:α},(∀c∈cs,S c)→S a→img m cs x a=m a (img m cs x e)
 |c::cs,x::xs,a,hc,ha=>by
  have h1:S c:=hc c (by simp);have h2:∀c∈cs,S c:=by grind
  simp only[img];rw[zE2 h h1 ha,zE3 h cs xs h2 (h.cl ha (tI h h1 _)),zE2 h h1 h.ein,zE3 h cs xs h2 (h.cl h.ein (tI h h1 _)),h.onel (tI h h1 _),
   h.assoc ha (tI h h1 _) (zFs h cs xs h2 h.ein)]
 | [],_,a,_,ha=>by simp[img,h.oner ha]
 |_::_,[],a,_,ha=>by simp[img,h.oner ha]
theorem qK(h:Mon S m e){c:α}{cs:List α}{x:Int}{xs:Vec}(hc:S c)(gZ:∀c∈cs,S c):img m (c::cs) (x::xs) e=m (pw m e c x.toNat) (img m cs xs e):=by simp only[img];rw[zE3 h cs xs gZ (vL (fun a ha=>h.cl ha hc) _ h.ein)];rfl
theorem sW(m:α→α→α):∀(cs:List α)(n:Nat)(a:α),img m cs (zeros n) a=a
 | [],_,_=>by simp[img]
 |_::_,0,_=>by rfl
 |c::cs,n+1,a=>by simp only[zeros,Jp,img,Gl,iter];exact sW m cs n a
theorem zHn(h:Mon S m e){g:α}(hg:S g):∀(cs ds:List α)(x:Vec),(∀c∈cs,S c)→(∀c∈ds,S c)→cs.length=ds.length→(∀(k:Nat) c d,cs[k]? =i7 c→ds[k]? =i7 d→m c g=m g d)→m (img m cs x e) g=m g (img m ds x e)
 | [],[],x,_,_,_,_=>by simp[img,h.onel hg,h.oner hg]
 |c::cs,d::ds,[],_,_,_,_=>by simp[img,h.onel hg,h.oner hg]
 |c::cs,d::ds,x::xs,hc,hd,hl,hp=>by
  have gP:S c:=hc c (by simp);have hd0:S d:=hd d (by simp);have gZ:∀c∈cs,S c:=by grind
  have pV:∀c∈ds,S c:=by grind
  have key:∀k,m (pw m e c k) g=m g (pw m e d k):=by
   intro k
   induction k with
   |zero=>simp[pw,iter,h.onel hg,h.oner hg]
   |succ k ih=>
    have h0:m c g=m g d:=hp 0 c d rfl rfl;rw[pw,vB,pw,vB];show m (m (pw m e c k) c) g=m g (m (pw m e d k) d);rw[h.assoc (tI h gP k) gP hg,h0,←h.assoc (tI h gP k) hg hd0,ih,h.assoc hg (tI h hd0 k) hd0]
  rw[qK h gP gZ,qK h hd0 pV,h.assoc (tI h gP _) (zFs h _ _ gZ h.ein) hg,zHn h hg cs ds xs gZ pV (by grind) (fun k c d h1 h2=>hp (k+1) c d (by grind) (by grind)),
   ←h.assoc (tI h gP _) hg (zFs h _ _ pV h.ein),key,h.assoc hg (tI h hd0 _) (zFs h _ _ pV h.ein)]
theorem zOp{β:Type}{T:β→Prop}{n:β→β→β}{f:β}(h:Mon S m e)(h':Mon T n f)(φ:α→β)(gU:∀a,S a→T (φ a))(h1:φ e=f)(hm:∀a b,S a→S b→φ (m a b)=n (φ a) (φ b)):∀(cs:List α)(x:Vec),(∀c∈cs,S c)→φ (img m cs x e)=img n (cs.map φ) x f
 | [],_,_=>by simp[img,h1]
 |c::cs,[],_=>by simp[img,h1]
 |c::cs,x::xs,hc=>by
  have gP:S c:=hc c (by simp);have gZ:∀c∈cs,S c:=by grind
  have key:∀k,φ (pw m e c k)=pw n f (φ c) k:=by
   intro k
   induction k with
   |zero=>grind[pw,iter]
   |succ k ih=>
    grind[pw,vB,tI]
  rw[qK h gP gZ,Jo,qK h' (gU c gP) (by simp_all),hm _ _ (tI h gP _) (zFs h _ _ gZ h.ein),key,zOp h h' φ gU h1 hm cs xs gZ]
end
theorem wO:∀{P:Pcp},Ok P→V P (zeros P.length)
 | [],_=>rfl
 |l::P,h=>by simp only[Ok]at h;simp only[J7,zeros,Jp,V];exact⟨by omega,wO h.2.2.2.2⟩
theorem xE:∀{P:Pcp},Ok P→ ∀{x y:Vec},V P x→V P y→V P (mul P x y)
 | [],_,_,_,hx,hy=>by rfl
 |l::P,h,[],_,hx,_=>by grind[V]
 |l::P,h,_::_,[],_,hy=>by grind[V]
 |l::P,h,a::x,b::y,hx,hy=>by
  simp only[Ok]at h;simp only[V]at hx hy;have h1:∀v,V P v→V P (img (mul P) l.cs v (zeros P.length)):=fun v hv=>qO (xE h.2.2.2.2) l.cs v h.2.2.2.1 (wO h.2.2.2.2)
  have h2:=xE h.2.2.2.2 (vL h1 b.toNat hx.2) hy.2;simp only[mul];split
  ·exact⟨by omega,xE h.2.2.2.2 h.2.1 h2⟩
  ·exact⟨by omega,h2⟩
def Rel{α:Type}(m:α→α→α)(e:α):Pcp→List α→Prop
 | [],s=>s=[]
 |l::P,s=>match s with
  | []=>False
  |g::s=>pw m e g l.o.toNat=img m s l.w e∧(∀(k:Nat) c d,s[k]? =i7 c→l.cs[k]? =i7 d→m c g=m g (img m s d e))∧Rel m e P s
section
variable {α:Type}{S:α→Prop}{m:α→α→α}{e:α}
theorem zYO(h:Mon S m e):∀(P:Pcp)(s:List α),Ok P→(∀g∈s,S g)→Rel m e P s→ ∀x y,V P x→V P y→img m s (mul P x y) e=m (img m s x e) (img m s y e)
 | [],s,_,_,hr,x,y,hx,hy=>by simp only[Rel]at hr;subst hr;simp[img,h.onel h.ein]
 |l::P,[],_,_,hr,_,_,_,_=>by grind[Rel]
 |l::P,g::s,_,_,_,[],_,hx,_=>by grind[V]
 |l::P,g::s,_,_,_,_::_,[],_,hy=>by grind[V]
 |l::P,g::s,hk,hs,hr,a::x,b::y,hx,hy=>by
  simp only[Ok]at hk;simp only[Rel]at hr;simp only[V]at hx hy;obtain⟨ho,hw,gE,gZ,aV⟩:=hk;obtain⟨eW,fF,pG⟩:=hr;have hg:S g:=hs g (by simp);have mc:∀c∈s,S c:=by grind
  have gj:s.length=P.length:=by
   clear eW fF hx hy hw gE gZ hs mc
   induction P generalizing s with
   |nil=>grind[Rel]
   |cons l P ih=>
    cases s with
    |nil=>grind[Rel]
    |cons c s=>grind[Rel,Ok]
  have ih:=zYO h P s aV mc pG;have hφ:∀v,S (img m s v e):=fun v=>zFs h s v mc h.ein
  have hmP:∀{a b},V P a→V P b→V P (mul P a b):=xE aV;have bO:∀v,V P v→V P (img (mul P) l.cs v (zeros P.length)):=fun v hv=>qO hmP l.cs v gZ (wO aV)
  have hσ:∀v,V P v→m (img m s v e) g=m g (img m s (img (mul P) l.cs v (zeros P.length)) e):=by
   intro v hv;have key:∀(cs:List Vec)(v:Vec)(acc:Vec),(∀c∈cs,V P c)→V P acc→img m s (img (mul P) cs v acc) e=img m (cs.map fun c=>img m s c e) v (img m s acc e):=by
    intro cs
    induction cs with
    |nil=>grind[img]
    |cons c cs ihc=>
     intro v acc hc hacc;cases v with
     |nil=>simp[img]
     |cons z v=>
      have gP:V P c:=hc c (by simp);have it:∀k acc,V P acc→img m s (iter k (fun v=>mul P v c) acc) e=iter k (fun v=>m v (img m s c e)) (img m s acc e):=by
       intro k
       induction k with
       |zero=>intro acc _;rfl
       |succ k ihk=>
        simp_all[iter]
      simp only[img,Jo];rw[ihc v _ (by simp_all) (vL (by grind) _ hacc),it _ _ hacc]
   rw[key l.cs v (zeros P.length) gZ (wO aV),sW];refine zHn h hg s _ v mc (by simp_all) (by grind) ?_;intro k c d hc hd;simp only[K0,Kj]at hd;obtain⟨d',bf,rfl⟩:=hd
   grind
  have hσk:∀k v,V P v→m (img m s v e) (pw m e g k)=m (pw m e g k) (img m s (iter k (fun v=>img (mul P) l.cs v (zeros P.length)) v) e):=by
   intro k
   induction k with
   |zero=>intro v _;simp[pw,iter,h.onel (hφ v),h.oner (hφ v)]
   |succ k ihk=>
    intro v hv;rw[zRp h hg,←h.assoc (hφ v) hg (tI h hg k),hσ v hv,h.assoc hg (hφ _) (tI h hg k),ihk _ (bO v hv),←h.assoc hg (tI h hg k) (hφ _)];rfl
  have fI:=tI h hg a.toNat;have bD:=tI h hg b.toNat;have ef:V P (iter b.toNat (fun v=>img (mul P) l.cs v (zeros P.length)) x):=vL bO _ hx.2;have ai:m (img m (g::s) (a::x) e) (img m (g::s) (b::y) e)=m (pw m e g (a.toNat+b.toNat)) (img m s (mul P (iter b.toNat (fun v=>img (mul P) l.cs v (zeros P.length)) x) y) e):=by rw[qK h hg mc,qK h hg mc,h.assoc fI (hφ x) (h.cl bD (hφ y)),←h.assoc (hφ x) bD (hφ y),hσk _ _ hx.2,h.assoc bD (hφ _) (hφ y),←ih _ _ ef hy.2,←h.assoc fI bD (hφ _),zHm h hg]
  rw[ai];simp only[mul];split
  ·rename_i hge
   rw[qK h hg mc,ih _ _ hw (hmP ef hy.2),←eW,←h.assoc (tI h hg _) (tI h hg _) (hφ _),←zHm h hg]
   congr 2
   omega
  ·rw[qK h hg mc]
   congr 2
   omega
end
def xI(n j:Nat):Vec:=(zeros n).set j 1
def sig(P:Pcp)(l:Lvl)(v:Vec):Vec:=img (mul P) l.cs v (zeros P.length)
def wR:Pcp→Prop
 | []=>True
 |l::P=>wR P∧Rel (mul P) (zeros P.length) P l.cs∧sig P l l.w=l.w∧ ∀j,j<P.length→mul P l.w (iter l.o.toNat (sig P l) (xI P.length j))=mul P (xI P.length j) l.w
theorem zCW(n:Nat):xI (n+1) 0=1::zeros n:=rfl
theorem zFt(n j:Nat):xI (n+1) (j+1)=0::xI n j:=rfl
def wK(n:Nat):List Vec:=(Jg n).map (xI n)
theorem zMJ(n:Nat):wK (n+1)=(1::zeros n)::(wK n).map (0::·):=by
 simp only[wK,Jaq,Jo,Jaf,zCW]
 congr 1
theorem zCv:∀{P:Pcp},Ok P→ ∀{j:Nat},j<P.length→V P (xI P.length j)
 | [],_,_,hj=>by simp at hj
 |l::P,h,0,_=>by grind[Ok,zCW,V,wO]
 |l::P,h,j+1,hj=>by simp only[Ok]at h;rw[J7,zFt];simp only[V];exact⟨by omega,zCv h.2.2.2.2 (by grind)⟩
theorem zCw{l:Lvl}{P:Pcp}(h:Ok (l::P)){v:Vec}(_hv:V P v):V P (sig P l v):=by simp only[Ok]at h;exact qO (xE h.2.2.2.2) l.cs v h.2.2.2.1 (wO h.2.2.2.2)
theorem yY(l:Lvl)(P:Pcp)(a b:Int)(x y:Vec):mul (l::P) (a::x) (b::y)=if a+b≥l.o then(a+b-l.o)::mul P l.w (mul P (iter b.toNat (sig P l) x) y)else(a+b)::mul P (iter b.toNat (sig P l) x) y:=rfl
theorem zPq{n k:Nat}{c:Vec}(h:(wK n)[k]? =i7 c):k<n∧c=xI n k:=by
 simp only[wK,K0,Kj]at h
 grind
theorem normal:∀(P:Pcp),Ok P→(∀Q,Q<:+P→Mon (V Q) (mul Q) (zeros Q.length))→ ∀x,V P x→img (mul P) (wK P.length) x (zeros P.length)=x
 | [],_,_,x,hx=>by grind[V,img,zeros]
 |l::P,_,_,[],hx=>by grind[V]
 |l::P,h,hM,a::x,hx=>by
  have hMl:=hM (l::P) (List.suffix_refl _);have hMP:=hM P (by simp);have h':=h;simp only[Ok]at h;simp only[V]at hx;rw[J7,zMJ];have hz:V P (zeros P.length):=wO h.2.2.2.2;have hu0:V (l::P) (1::zeros P.length):=by grind[V]
  have fL:∀c∈(wK P.length).map (0::·),V (l::P) c:=by
   intro c hc;simp only[wK,Jaf,Jm,Kq]at hc;obtain⟨j,hj,rfl⟩:=hc;simp only[Function.comp,V]
   grind[zCv]
  have mo:V (l::P) (zeros (P.length+1)):=by grind[wO]
  rw[show zeros (P.length+1)=zeros (l::P).length from rfl];rw[qK hMl hu0 fL];have sz:∀k:Nat,iter k (sig P l) (zeros P.length)=zeros P.length:=by
   intro k
   induction k with
   |zero=>rfl
   |succ k ih=>grind[iter,sig,sW]
  have h1:∀k:Nat,(k:Int)<l.o→pw (mul (l::P)) (zeros (l::P).length) (1::zeros P.length) k=(k:Int)::zeros P.length:=by
   intro k
   induction k with
   |zero=>intro _;rfl
   |succ k ih=>
    intro hk;rw[pw,vB];show mul (l::P) (pw (mul (l::P)) (zeros (l::P).length) (1::zeros P.length) k) (1::zeros P.length)=_;rw[ih (by omega),yY,if_neg (by omega)];rw[sz,hMP.onel hz];rfl
  have h2:∀(cs:List Vec)(y acc:Vec),(∀c∈cs,V P c)→V P acc→img (mul (l::P)) (cs.map (0::·)) y (0::acc)=0::img (mul P) cs y acc:=by
   intro cs
   induction cs with
   |nil=>grind[img]
   |cons c cs ih=>
    intro y acc hc hacc;cases y with
    |nil=>simp[img]
    |cons z y=>
     have gP:V P c:=hc c (by simp);have it:∀(k:Nat)(acc:Vec),V P acc→iter k (fun v=>mul (l::P) v (0::c)) (0::acc)=0::iter k (fun v=>mul P v c) acc:=by
      intro k
      induction k with
      |zero=>intro _ _;rfl
      |succ k ihk=>
       intro acc hacc;simp only[iter];rw[yY,if_neg (by omega)];exact ihk _ (xE h.2.2.2.2 hacc gP)
     simp only[Jo,img];rw[it _ _ hacc,ih _ _ (by grind) (vL (by grind[xE]) _ hacc)]
  have pM:∀c∈wK P.length,V P c:=by
   intro c hc;simp only[wK,Jm,Kq]at hc;obtain⟨j,hj,rfl⟩:=hc
   grind[zCv]
  rw[h1 a.toNat (by omega),show zeros (l::P).length=0::zeros P.length from rfl,h2 _ _ _ pM hz,normal P h.2.2.2.2 (by grind) x hx.2,yY,if_neg (by omega)];simp only[Gl,iter];rw[hMP.onel hx.2]
  grind
theorem zCx:∀(P:Pcp),Ok P→wR P→Grp (V P) (mul P) (zeros P.length)
 | [],_,_=>by
  refine⟨⟨fun _ _=>rfl,rfl,fun _ _ _=>rfl,?_,?_⟩,fun ha=>⟨[],rfl,rfl⟩⟩<;>
  ·intro a ha
   simp only[V]at ha;subst ha;rfl
 |l::P,h,hc=>by
  have h':=h;simp only[Ok]at h;simp only[wR]at hc;obtain⟨ho,hw,gE,gZ,hP⟩:=h;obtain⟨uu,mF,ay,ar⟩:=hc;have N:=zCx P hP uu;have hM:∀Q,Q<:+P→Mon (V Q) (mul Q) (zeros Q.length):=by
   intro Q hQ;obtain⟨t,ht⟩:=hQ;have:Ok Q∧wR Q:=by
    clear N hw gE gZ mF ay ar h'
    induction t generalizing P with
    |nil=>grind
    |cons a t ih=>
     simp at ht;subst ht;simp only[Ok]at hP;simp only[wR]at uu
     grind
   have gD:SizeOf.sizeOf Q≤SizeOf.sizeOf P:=by
    rw[←ht]
    clear N hw gE gZ mF ay ar h' hP uu ht this
    induction t with
    |nil=>simp
    |cons a t ih=>grind
   exact(zCx Q this.1 this.2).toMon
  have hz:V P (zeros P.length):=wO hP;have σin:∀v,V P v→V P (sig P l v):=by grind[zCw]
  have σhom:∀x y,V P x→V P y→sig P l (mul P x y)=mul P (sig P l x) (sig P l y):=fun x y hx hy=>zYO N.toMon P l.cs hP gZ mF x y hx hy
  have σz:sig P l (zeros P.length)=zeros P.length:=sW _ _ _ _;have itin:∀(k:Nat) v,V P v→V P (iter k (sig P l) v):=fun k v hv=>vL σin k hv
  have ithom:∀(k:Nat) x y,V P x→V P y→iter k (sig P l) (mul P x y)=mul P (iter k (sig P l) x) (iter k (sig P l) y):=by
   intro k
   induction k with
   |zero=>intro _ _ _ _;rfl
   |succ k ih=>simp_all[iter]
  have itz:∀k:Nat,iter k (sig P l) (zeros P.length)=zeros P.length:=by
   intro k
   induction k with
   |zero=>rfl
   |succ k ih=>grind[iter]
  have itw:∀k:Nat,iter k (sig P l) l.w=l.w:=by
   intro k
   induction k with
   |zero=>rfl
   |succ k ih=>grind[iter]
  have pM:∀c∈wK P.length,V P c:=by
   intro c hc;simp only[wK,Jm,Kq]at hc;obtain⟨j,hj,rfl⟩:=hc
   grind[zCv]
  have inner:∀x,V P x→mul P x l.w=mul P l.w (iter l.o.toNat (sig P l) x):=by
   intro x hx;have hnf:=normal P hP hM x hx;have ah:=zOp N.toMon N.toMon (iter l.o.toNat (sig P l)) (by grind) (itz _) (by grind) (wK P.length) x pM;rw[←hnf,ah];refine zHn N.toMon hw _ _ x pM (by simp_all) (by simp) ?_;intro k c d hc hd;rw[K0,Kj]at hd;obtain⟨c',m6,rfl⟩:=hd;rw[hc]at m6;simp at m6;subst m6;obtain⟨hk,rfl⟩:=zPq hc
   grind
  have e:∀(x y z:Vec)(b c:Int),V P x→V P y→V P z→0≤b→0≤c→
    mul P (iter c.toNat (sig P l) (mul P (iter b.toNat (sig P l) x) y)) z=mul P (iter (b+c).toNat (sig P l) x) (mul P (iter c.toNat (sig P l) y) z)∧
    mul P (iter c.toNat (sig P l) (mul P l.w (mul P (iter b.toNat (sig P l) x) y))) z=mul P l.w (mul P (iter (b+c).toNat (sig P l) x) (mul P (iter c.toNat (sig P l) y) z))∧
    (l.o≤b+c→mul P (iter (b+c-l.o).toNat (sig P l) x) (mul P l.w (mul P (iter c.toNat (sig P l) y) z))=mul P l.w (mul P (iter (b+c).toNat (sig P l) x) (mul P (iter c.toNat (sig P l) y) z))):=by
   intro x y z b c hx hy hz hb hcc;have uw:=itin b.toNat x hx;have hcy:=itin c.toNat y hy;have hbc:iter c.toNat (sig P l) (iter b.toNat (sig P l) x)=iter (b+c).toNat (sig P l) x:=by rw[←zE1];congr 1;omega
   have uy:=itin (b+c).toNat x hx;have e1:mul P (iter c.toNat (sig P l) (mul P (iter b.toNat (sig P l) x) y)) z=mul P (iter (b+c).toNat (sig P l) x) (mul P (iter c.toNat (sig P l) y) z):=by rw[ithom _ _ _ uw hy,hbc,N.assoc uy hcy hz]
   refine⟨e1,?_,?_⟩
   ·rw[ithom _ _ _ hw (N.cl uw hy),itw,N.assoc hw (itin _ _ (N.cl uw hy)) hz,e1]
   ·intro hge
    have aB:=N.cl hcy hz;rw[←N.assoc (itin _ x hx) hw aB,inner _ (itin _ x hx),←zE1,N.assoc hw (itin _ x hx) aB]
    congr 3
    omega
  refine⟨⟨by grind[xE],wO h',?_,?_,?_⟩,?_⟩
  ·intro A B C hA hB hC
   match A,B,C,hA,hB,hC with
   |a::x,b::y,c::z,hA,hB,hC=>
    simp only[V]at hA hB hC;obtain⟨e1,e2,e3⟩:=e x y z b c hA.2 hB.2 hC.2 hB.1.1 hC.1.1
    by_cases c1:a+b≥l.o<;>by_cases c2:b+c≥l.o
    ·rw[yY,if_pos c1,yY l P b c,if_pos c2,yY,yY,e2,e3 c2]
     grind
    ·rw[yY,if_pos c1,yY l P b c,if_neg c2,yY,yY,e2,if_neg (by omega),if_pos (by omega)]
     grind
    ·rw[yY,if_neg c1,yY l P b c,if_pos c2,yY,yY,e1,e3 c2,if_pos (by omega),if_neg (by omega)]
     grind
    ·rw[yY,if_neg c1,yY l P b c,if_neg c2,yY,yY,e1]
     grind
  ·intro A hA
   match A,hA with
   |a::x,hA=>
    simp only[V]at hA;show mul (l::P) (0::zeros P.length) (a::x)=_;rw[yY,if_neg (by omega),itz,N.onel hA.2,Lo]
  ·intro A hA
   match A,hA with
   |a::x,hA=>
    simp only[V]at hA;show mul (l::P) (a::x) (0::zeros P.length)=_;rw[yY,if_neg (by omega)];simp only[Gl,iter];rw[N.oner hA.2,Ly]
  ·intro A hA
   match A,hA with
   |a::x,hA=>
    simp only[V]at hA
    by_cases ha:a=0
    ·obtain⟨y,hy,h1⟩:=N.inv hA.2
     refine⟨0::y,by simp only[V];grind,?_⟩;rw[yY,if_neg (by omega)];simp only[Gl,iter];rw[h1,ha];rfl
    ·have bR:=itin (l.o-a).toNat x hA.2
     obtain⟨y,hy,h1⟩:=N.inv (N.cl hw bR);refine⟨(l.o-a)::y,by simp only[V];grind,?_⟩;rw[yY,if_pos (by omega),←N.assoc hw bR hy,h1,show a+(l.o-a)-l.o=0 by omega];rfl
termination_by P=>P
end Go.Pc

namespace Go.Pl
open Go Go.Ab
theorem bs{α β:Type}(x:α)(f:α→Option β):(i7 x).bind f=f x:=by simp only[Option.bind_some]
theorem zN{α:Type}(x y:α):cond i9 x y=x:=by simp only[cond_true]
theorem zS{α:Type}(x y:α):cond ia x y=y:=by simp only[cond_false]
theorem zC{n:Int}(h1:-9223372036854775808≤n)(h2:n≤9223372036854775807):rng n=i7 n:=by unfold rng;rw[if_pos];simp only[inR,J3,decide_eq_true_eq];omega
theorem vT{α:Type}(xs:List α)(i:Nat):ixO xs (i:Int)=xs[i]?:=by unfold ixO;rw[if_pos (by omega)];simp
theorem zAG{α:Type}{xs:List α}{i:Nat}(h:i<xs.length):ixO xs (i:Int)=i7 xs[i]:=by rw[vT];exact J4 h
theorem xP{n:Nat}(h:n≤68719476736):xF (n:Int)=i7 n:=by unfold xF;rw[if_pos (by omega)];simp
theorem yT{α:Type}{xs ys:List α}(h:xs.length+ys.length≤68719476736):xW xs ys=i7 (xs++ys):=by unfold xW;rw[if_pos h]
theorem zY{σ ρ:Type}{body:σ→Option (σ⊕ρ)}{r:ρ}(S:Nat→σ)(n:Nat)(h:∀i,i<n→body (S i)=i7 (.inl (S (i+1))))(he:body (S n)=i7 (.inr r)):zJ body (S 0)=i7 r:=by
 have key:∀k i,i+k=n→zJ body (S i)=i7 r:=by
  intro k
  induction k with
  |zero=>intro i hi;rw[xT,show i=n from by omega,he]
  |succ k ih=>intro i hi;rw[xT,h i (by omega)];exact ih (i+1) (by omega)
 exact key n 0 (by omega)
theorem tC{σ ρ:Type}{body:σ→Option (σ⊕ρ)}{Q:ρ→Prop}(I:Nat→σ→Prop)(n:Nat)(h:∀i s,i<n→I i s→(∃s',body s=i7 (.inl s')∧I (i+1) s')∨ ∃r,body s=i7 (.inr r)∧Q r)
  (he:∀s,I n s→ ∃r,body s=i7 (.inr r)∧Q r){s:σ}(h0:I 0 s):∃r,zJ body s=i7 r∧Q r:=by
 have key:∀k i s,i+k=n→I i s→ ∃r,zJ body s=i7 r∧Q r:=by
  intro k
  induction k with
  |zero=>
   intro i s hi hs;obtain rfl:i=n:=by omega
   obtain⟨r,h1,h2⟩:=he s hs;exact⟨r,by rw[xT,h1],h2⟩
  |succ k ih=>
   intro i s hi hs;rcases h i s (by omega) hs with⟨s',h1,h2⟩|⟨r,h1,h2⟩
   ·rw[xT,h1];exact ih (i+1) s' (by omega) h2
   ·exact⟨r,by rw[xT,h1],h2⟩
 exact key n 0 s (by omega) h0
def zLb{ρ:Type}:Option ρ→Unit⊕ρ
 |none=>.inl ()
 |some r=>.inr r
theorem cs(i:Nat):(i:Int)+1=((i+1:Nat):Int):=by omega
theorem zIK{ρ:Type}{body:Int→Option (Int⊕(Unit⊕ρ))}(n:Nat)(t:Nat→Option ρ)(i0:Nat)(hn:i0≤n)
  (h:∀i,i0≤i→i<n→(∀j,i0≤j→j<i→t j=i8)→body (i:Int)=i7 (match t i with|none=>.inl ((i+1:Nat):Int)|some r=>.inr (.inr r)))
  (he:(∀j,i0≤j→j<n→t j=i8)→body (n:Int)=i7 (.inr (.inl ()))):
  zJ body (i0:Int)=i7 (zLb ((Ku i0 (n-i0)).findSome? t)):=by
 have key:∀k i,i0≤i→i+k=n→(∀j,i0≤j→j<i→t j=i8)→zJ body (i:Int)=i7 (zLb ((Ku i k).findSome? t)):=by
  intro k
  induction k with
  |zero=>
   intro i hi hk hp;obtain rfl:i=n:=by omega
   rw[xT,he hp];rfl
  |succ k ih=>
   intro i hi hk hp;rw[xT,h i hi (by omega) hp,Jcr,Jbf];cases ht:t i with
   |some r=>rfl
   |none=>
    simp only
    exact ih (i+1) (by omega) (by omega) fun j h1 h2=>by
     rcases Jj j i with h3|h3
     ·exact hp j h1 h3
     ·rw[show j=i from by omega];exact ht
 exact key (n-i0) i0 (Ji _) (by omega) fun j h1 h2=>by omega
theorem zRq{n:Nat}{b:Nat→Bool}:zLb ((Ku 0 n).findSome? (fun i=>if b i then i8 else i7 ia))=if(Jg n).all b then .inl ()else .inr ia:=by
 have key:∀l:List Nat,zLb (l.findSome? (fun i=>if b i then i8 else i7 ia))=if l.all b then .inl ()else .inr ia:=by
  intro l
  induction l with
  |nil=>rfl
  |cons x l ih=>
   rw[Jbf,Q0];cases hb:b x
   ·rfl
   ·simpa using ih
 rw[key,Lh]
theorem zIL{body:Int→Option (Int⊕(Unit⊕Bool))}(n:Nat)(b:Nat→Bool)
  (h:∀i,i<n→(∀j,j<i→b j=i9)→body (i:Int)=i7 (if b i then .inl ((i+1:Nat):Int)else .inr (.inr ia)))
  (he:(∀j,j<n→b j=i9)→body (n:Int)=i7 (.inr (.inl ()))):
  zJ body 0=i7 (if(Jg n).all b then .inl ()else .inr ia):=by
 have:=zIK (body:=body) n (fun i=>if b i then i8 else i7 ia) 0 (Km _) (fun i _ hi hp=>by
  rw[h i hi fun j hj=>by
   have:=hp j (Km _) hj;split at this
   ·assumption
   ·cases this]
  cases b i<;>rfl) (fun hp=>he fun j hj=>by
   have:=hp j (Km _) hj;split at this
   ·assumption
   ·cases this)
 rw[Jb5]at this;exact this.trans (congrArg i7 (zRq (n:=n) (b:=b)))
theorem zRr{α:Type}{xs:List α}{z:α}{i:Nat}(h:i<xs.length):(xs.take i++J1 (xs.length-i) z).set i xs[i]=xs.take (i+1)++J1 (xs.length-(i+1)) z:=by
 have h1:(xs.take i).length=i:=by rw[Ka];omega
 rw[Ud _ _ (by omega),h1,Kl,show xs.length-i=(xs.length-(i+1))+1 from by omega,Jp,H2,Jw h];simp only[Jc,H1]
theorem zJD{α:Type}{f:α→Option α}{body:List α×Int→Option ((List α×Int)⊕List α)}{x0:List α}{z:α}
  (hb:∀s,body s=cond (decide (s.2<(x0.length:Int))) ((ixO x0 s.2).bind fun v2=>(f v2).bind fun r3=>(ixO s.1 s.2).bind fun _=>(rng (s.2+1)).bind fun v5=>i7 (.inl (s.1.set s.2.toNat r3,v5))) (i7 (.inr s.1)))
  (hl:x0.length≤68719476736)(hf:∀x∈x0,f x=i7 x):zJ body (J1 x0.length z,0)=i7 x0:=by
 have:=zY (body:=body) (r:=x0) (fun i=>(x0.take i++J1 (x0.length-i) z,(i:Int))) x0.length (fun i hi=>by
  rw[hb];simp only[ic (show((i:Int))<(x0.length:Int)from by omega),zN];rw[zAG hi,vT];simp only[bs,hf _ (K9 hi)];rw[J4 (by simp;omega),bs,zC (by omega) (by omega),bs];simp only[Ja,zRr hi,cs]) (by
  rw[hb];simp only[ib (show¬((x0.length:Int))<(x0.length:Int)from by omega),zS,Qt,Kl,Hk,Je])
 simpa using this
theorem zTZ{α:Type}[BEq α]{t:α→α→Option Bool}{body:Int→Option (Int⊕(Unit⊕Bool))}{x y:List α}
  (hb:∀i,body i=cond (decide (i<(x.length:Int))) ((ixO x i).bind fun v1=>(ixO y i).bind fun v2=>(t v1 v2).bind fun r3=>cond (!r3) (i7 (.inr (.inr ia))) ((rng (i+1)).bind fun v4=>i7 (.inl v4))) (i7 (.inr (.inl ()))))
  (hl:x.length≤68719476736)(bQ:x.length=y.length)(ht:∀u∈x,∀v∈y,t u v=i7 (u==v)):zJ body 0=i7 (if x==y then .inl ()else .inr ia):=by
 have h:=zIL (body:=body) x.length (fun i=>match x[i]?,y[i]? with|some u,i7 v=>u==v|_,_=>i9) (fun i hi _=>by
  have fq:i<y.length:=by omega
  rw[hb];simp only[ic (show((i:Int))<(x.length:Int)from by omega),zN];rw[zAG hi,zAG fq];simp only[bs,ht _ (K9 hi) _ (K9 fq),J4 hi,J4 fq];cases x[i]==y[i]
  ·rfl
  ·simp only[K7,zS,if_true]
   rw[zC (by omega) (by omega),cs];rfl) (fun _=>by
  rw[hb];simp only[ib (show¬((x.length:Int))<(x.length:Int)from by omega),zS])
 rw[h]
 congr 2
 have key:∀(x y:List α),x.length=y.length→((Jg x.length).all (fun i=>match x[i]?,y[i]? with|some u,i7 v=>u==v|_,_=>i9))=(x==y):=by
  intro x
  induction x with
  |nil=>intro y hy;cases y with|nil=>rfl|cons _ _=>simp at hy
  |cons u x ih=>
   intro y hy;cases y with
   |nil=>simp at hy
   |cons v y=>
    rw[J7,Jaq,Q0,List.all_map];simp only[Qm,Function.comp_def,Ue];rw[ih y (by simpa using hy)];rfl
 rw[key x y bQ]
theorem zIM{α:Type}[BEq α]{t:α→α→Option Bool}{f:Option Bool}{body:Int→Option (Int⊕(Unit⊕Bool))}{x y:List α}
  (hf:f=cond ((x.length:Int) != (y.length:Int)) (i7 ia) ((zJ body 0).bind fun r=>match r with|.inl _=>i7 i9|.inr r=>i7 r))
  (hb:∀i,body i=cond (decide (i<(x.length:Int))) ((ixO x i).bind fun v1=>(ixO y i).bind fun v2=>(t v1 v2).bind fun r3=>cond (!r3) (i7 (.inr (.inr ia))) ((rng (i+1)).bind fun v4=>i7 (.inl v4))) (i7 (.inr (.inl ()))))
  (hl:x.length≤68719476736)(ht:∀u∈x,∀v∈y,t u v=i7 (u==v)):f=i7 (x==y):=by
 rw[hf]
 by_cases bQ:x.length=y.length
 ·rw[zTZ hb hl bQ ht]
  have:((x.length:Int) != (y.length:Int))=ia:=by simp[bQ]
  rw[this];cases x==y<;>rfl
 ·have:((x.length:Int) != (y.length:Int))=i9:=by simp;omega
  rw[this];have h2:(x==y)=ia:=by
   have key:∀(x y:List α),x.length≠y.length→(x==y)=ia:=by
    intro x
    induction x with
    |nil=>intro y hy;cases y with|nil=>simp at hy|cons _ _=>rfl
    |cons u x ih=>
     intro y hy;cases y with
     |nil=>rfl
     |cons v y=>
      show(u==v&&x==y)=ia;rw[ih y (by simpa using hy),Bool.and_false]
   exact key x y bQ
  rw[h2];rfl
end Go.Pl

namespace Go.Pl
open Go Go.Ab
def sm{α:Type}(c:α→Nat):List α→Nat
 | []=>0
 |x::xs=>c x+sm c xs
theorem zFu{α:Type}(c:α→Nat):∀xs ys:List α,sm c (xs++ys)=sm c xs+sm c ys
 | [],ys=>by simp[sm]
 |x::xs,ys=>by simp only[K1,sm,zFu c xs ys];omega
theorem zOq{α:Type}(c:α→Nat){xs:List α}{i:Nat}(h:i<xs.length):sm c (xs.take (i+1))=sm c (xs.take i)+c xs[i]:=by rw[Jw h,zFu];simp[sm]
theorem zHo{α:Type}(c:α→Nat)(xs:List α)(i:Nat):sm c (xs.take i)≤sm c xs:=by have:=zFu c (xs.take i) (xs.drop i);rw[Jb0]at this;omega
theorem zRs{α:Type}(c:α→Nat){xs:List α}{x:α}(h:x∈xs):c x≤sm c xs:=by obtain⟨i,hi,rfl⟩:=L6.1 h;have:=zOq c hi;have:=zHo c xs (i+1);omega
def szR(c:Nat)(b:Int):Int:=if(c:Int)≤b then b-c else -1
theorem zV0{α:Type}{c:α→Nat}{t:α→Int→Option Int}{f:Option Int}{body:Int×Int→Option ((Int×Int)⊕(Int⊕Int))}{xs:List α}{b:Int}
  (hf:f=(rng (b-(xs.length:Int))).bind fun v1=>cond (decide (v1<0)) (i7 (-1)) ((zJ body (v1,0)).bind fun r=>match r with|.inl r=>i7 r|.inr r=>i7 r))
  (hb:∀s,body s=cond (decide (s.2<(xs.length:Int))) ((ixO xs s.2).bind fun v2=>(t v2 s.1).bind fun r3=>cond (decide (r3<0)) (i7 (.inr (.inr (-1)))) ((rng (s.2+1)).bind fun v4=>i7 (.inl (r3,v4)))) (i7 (.inr (.inl s.1))))
  (hl:xs.length≤9223372036854775807)(b0:0≤b)(b1:b≤1048576)(ht:∀x∈xs,∀b',0≤b'→b'≤1048576→t x b'=i7 (szR (c x) b')):f=i7 (szR (xs.length+sm c xs) b):=by
 rw[hf,zC (by omega) (by omega),bs]
 by_cases h0:b-(xs.length:Int)<0
 ·rw[ic h0,zN,szR,if_neg (by omega)]
 ·rw[ib h0,zS]
  obtain⟨r,h1,h2⟩:=tC (body:=body) (Q:=fun r=>(match r with|.inl r=>i7 r|.inr r=>i7 r)=i7 (szR (xs.length+sm c xs) b)) (fun i s=>s.2=(i:Int)∧0≤s.1∧s.1=b-xs.length-sm c (xs.take i)) xs.length (fun i s hi ⟨e1,e2,e3⟩=>by
   rw[hb,e1,ic (by omega),zN,zAG hi,bs,ht _ (K9 hi) _ e2 (by omega),bs];have h3:=zOq c hi;have h4:=zHo c xs (i+1);unfold szR
   by_cases h5:(c xs[i]:Int)≤s.1
   ·rw[if_pos h5,ib (by omega),zS,zC (by omega) (by omega),bs,cs]
    exact .inl ⟨_,rfl,rfl,by simp only;omega,by simp only;omega⟩
   ·rw[if_neg h5]
    refine .inr ⟨.inr (-1),rfl,?_⟩;simp only
    rw[if_neg (by omega)]) (fun s ⟨e1,e2,e3⟩=>by
   rw[hb,e1,ib (by omega),zS];rw[Qt]at e3;refine⟨_,rfl,?_⟩;simp only
   rw[szR,if_pos (by omega),e3]
   congr 1;omega) (s:=(b-(xs.length:Int),0)) ⟨rfl,by simp only;omega,by simp[sm]⟩
  rw[h1,bs,h2]
end Go.Pl

namespace Go.Pl
open Go Go.Ab Go.Wk
abbrev VI(n:Int):Prop:=(Lit.int .i64 n).wf=i9
abbrev VL{α:Type}(V:α→Prop)(xs:List α):Prop:=xs.length≤maxLen∧ ∀x∈xs,V x
abbrev c1(x:List Int):Nat:=x.length
abbrev c2(x:List (List Int)):Nat:=x.length+sm c1 x
abbrev c3(x:List (List (List Int))):Nat:=x.length+sm c2 x
theorem zLc{x:List Int}{b:Int}(hl:x.length≤9223372036854775807)(b0:0≤b)(b1:b≤1048576):zSo x b=i7 (szR (c1 x) b):=by
 unfold zSo szR;rw[zC (by omega) (by omega),bs]
 grind
theorem zIN{x:List (List Int)}{b:Int}(h:VL (VL VI) x)(b0:0≤b)(b1:b≤1048576):zU0 x b=i7 (szR (c2 x) b):=
 zV0 (c:=c1) rfl (fun _=>rfl) h.1 b0 b1 fun y hy _ h1 h2=>zLc (h.2 y hy).1 h1 h2
theorem zHp{x:List (List (List Int))}{b:Int}(h:VL (VL (VL VI)) x)(b0:0≤b)(b1:b≤1048576):zU1 x b=i7 (szR (c3 x) b):=
 zV0 (c:=c2) rfl (fun _=>rfl) h.1 b0 b1 (by grind[zIN])
abbrev S1(x:List Int):Prop:=c1 x≤1048576
abbrev S2(x:List (List Int)):Prop:=c2 x≤1048576
abbrev S3(x:List (List (List Int))):Prop:=c3 x≤1048576
theorem S2.mem{x:List (List Int)}(h:S2 x){y:List Int}(hy:y∈x):S1 y:=by
 have:=zRs c1 hy
 grind
theorem S3.mem{x:List (List (List Int))}(h:S3 x){y:List (List Int)}(hy:y∈x):S2 y:=by
 have:=zRs c2 hy
 grind
theorem S3.len{x:List (List (List Int))}(h:S3 x):x.length≤1048576:=by grind
theorem zLd{x:List Int}(h:S1 x):zPJ x=i7 x:=by unfold zPJ;rw[xP (H8 h (by decide)),bs,zJD (body:=zSp x) (f:=i7) (fun _=>rfl) (by grind) (fun _ _=>rfl),bs]
theorem zIO{x:List (List Int)}(h:S2 x):zPK x=i7 x:=by unfold zPK;rw[xP (by grind),bs,zJD (body:=zSq x) (f:=zPJ) (fun _=>rfl) (by grind) (fun _ hx=>zLd (h.mem hx)),bs]
theorem zHq{x:List (List (List Int))}(h:S3 x):zSs x=i7 x:=by unfold zSs;rw[xP (by grind),bs,zJD (body:=zSr x) (f:=zPK) (fun _=>rfl) (by grind) (fun _ hx=>zIO (h.mem hx)),bs]
theorem zLe{x y:List Int}(h:S1 x):zTi x y=i7 (x==y):=
 zIM (t:=fun u v=>i7 (u==v)) (body:=zTh x y) rfl (fun _=>rfl) (by grind) fun _ _ _ _=>rfl
theorem zIP{x y:List (List Int)}(h:S2 x):zTk x y=i7 (x==y):=
 zIM (t:=zTi) (body:=zTj x y) rfl (fun _=>rfl) (by grind) fun _ hu _ _=>zLe (h.mem hu)
theorem zHr{x y:List (List (List Int))}(h:S3 x):zUL x y=i7 (x==y):=
 zIM (t:=zTk) (body:=zTl x y) rfl (fun _=>rfl) (by grind) fun _ hu _ _=>zIP (h.mem hu)
def zOr(x:SPr):Prop:=VL VI x.zA∧VL (VL VI) x.zT∧VL (VL (VL VI)) x.zF
def zUa(x:zE):Prop:=VI x.Prime∧VI x.Dim∧VL (VL (VL VI)) x.zH
def zLf(x:SPr):Nat:=c1 x.zA+c2 x.zT+c3 x.zF
def zUb(x:zE):Nat:=c3 x.zH
def zFR(x:SPr):Prop:=S1 x.zA∧S2 x.zT∧S3 x.zF
def zLg(x:zE):Prop:=S3 x.zH
theorem zLh{a b:Nat}{n:Int}:(szR a n<0∧szR (a+b) n= -1)∨(0≤szR a n∧szR a n≤n∧szR b (szR a n)=szR (a+b) n∧(a:Int)≤n)∨n<0:=by unfold szR;omega
theorem zHs{x:SPr}{b:Int}(h:zOr x)(b0:0≤b)(b1:b≤1048576):zU2 x b=i7 (szR (zLf x) b):=by
 obtain⟨h1,h2,h3⟩:=h;unfold zU2 zLf;rw[zLc h1.1 b0 b1,bs];rcases zLh (a:=c1 x.zA) (b:=c2 x.zT+c3 x.zF) (n:=b)with⟨g1,g2⟩|⟨g1,g2,g3,g4⟩|g1
 ·grind
 ·rw[ib (by omega),zS,zIN h2 g1 (by omega),bs,Nat.add_assoc,←g3]
  generalize szR (c1 x.zA) b=b' at g1 g2
  rcases zLh (a:=c2 x.zT) (b:=c3 x.zF) (n:=b')with⟨k1,k2⟩|⟨k1,k2,k3,k4⟩|k1
  ·grind
  ·rw[ib (by omega),zS,zHp h3 k1 (by omega),bs,←k3]
   generalize szR (c2 x.zT) b'=b'' at k1 k2
   unfold szR
   grind
  ·omega
 ·omega
theorem zRt{x:zE}{b:Int}(h:zUa x)(b0:0≤b)(b1:b≤1048576):zU3 x b=i7 (szR (zUb x) b):=by
 obtain⟨_,_,h3⟩:=h;unfold zU3 zUb;rw[zHp h3 b0 b1,bs];unfold szR
 grind
theorem zOs{c:Nat}{b:Int}(b0:0≤b)(b1:b≤1048576):(decide (szR c b<0)=i9)∨(decide (szR c b<0)=ia∧0≤szR c b∧szR c b≤1048576∧c≤1048576):=by
 unfold szR
 grind
theorem zFR.of{x:SPr}(h:zLf x≤1048576):zFR x:=by unfold zLf at h;exact⟨by omega,by omega,by omega⟩
theorem zLg.of{x:zE}(h:zUb x≤1048576):zLg x:=h
theorem zHt{x:SPr}(h:zFR x):zPL x=i7 x:=by unfold zPL;rw[zLd h.1,bs,zIO h.2.1,bs,zHq h.2.2,bs]
theorem zRu{x:zE}(h:zLg x):zPM x=i7 x:=by unfold zPM;rw[zHq h,bs]
theorem zRv{x:zE}(h:zLg x):zUM x x=i7 i9:=by unfold zUM;rw[zHr h,bs];simp
theorem zHu{x:SPr}(h:zFR x):zUN x x=i7 i9:=by unfold zUN;rw[zLe h.1,bs,zIP h.2.1,bs,zHr h.2.2,bs];simp
end Go.Pl

namespace Go.Pl
open Go Go.Ab Go.Wk
def IsB(o:Option Bool)(P:Prop):Prop:=(o=i7 i9∧P)∨(o=i7 ia∧ ¬P)
theorem IsB.iff{o:Option Bool}{P Q:Prop}(h:IsB o P)(hpq:P↔Q):IsB o Q:=by grind
theorem IsB.of_bool{b:Bool}{P:Prop}(h:b=i9↔P):IsB (i7 b) P:=by
 cases b
 ·exact .inr (by grind)
 ·exact .inl ⟨rfl,h.1 rfl⟩
theorem chk{ρ:Type}{body:Int→Option (Int⊕(Unit⊕ρ))}(n i0:Nat)(hn:i0≤n)(P:Nat→Prop)(bad:Nat→ρ)
  (h:∀i,i0≤i→i<n→(∀j,i0≤j→j<i→P j)→(body (i:Int)=i7 (.inl ((i+1:Nat):Int))∧P i)∨(body (i:Int)=i7 (.inr (.inr (bad i)))∧ ¬P i))
  (he:body (n:Int)=i7 (.inr (.inl ()))):
  (zJ body (i0:Int)=i7 (.inl ())∧ ∀j,i0≤j→j<n→P j)∨ ∃i,i0≤i∧i<n∧zJ body (i0:Int)=i7 (.inr (bad i))∧ ¬P i:=by
 have key:∀k i,i0≤i→i+k=n→(∀j,i0≤j→j<i→P j)→(zJ body (i:Int)=i7 (.inl ())∧ ∀j,i0≤j→j<n→P j)∨ ∃q,i0≤q∧q<n∧zJ body (i:Int)=i7 (.inr (bad q))∧ ¬P q:=by
  intro k
  induction k with
  |zero=>
   intro i hi hk hp;obtain rfl:i=n:=by omega
   grind[xT]
  |succ k ih=>
   intro i hi hk hp;rcases h i hi (by omega) hp with⟨h1,h2⟩|⟨h1,h2⟩
   ·have:=ih (i+1) (by omega) (by omega) (by grind)
    rw[xT,h1];exact this
   grind[xT]
 exact key (n-i0) i0 (Ji _) (by omega) fun j a b=>by omega
theorem kS{f:Option Bool}{body:Int→Option (Int⊕(Unit⊕Bool))}(n:Nat)(P:Nat→Prop)
  (hf:f=(zJ body 0).bind fun r=>match r with|.inl _=>i7 i9|.inr r=>i7 r)
  (h:∀i,i<n→(∀j,j<i→P j)→(body (i:Int)=i7 (.inl ((i+1:Nat):Int))∧P i)∨(body (i:Int)=i7 (.inr (.inr ia))∧ ¬P i))
  (he:body (n:Int)=i7 (.inr (.inl ()))):IsB f (∀i,i<n→P i):=by
 rcases chk n 0 (Km _) P (fun _=>ia) (fun i _ hi hp=>h i hi fun j hj=>hp j (Km _) hj) he with⟨h1,h2⟩|⟨i,_,hi,h1,h2⟩
 ·refine .inl ⟨?_,fun i hi=>h2 i (Km _) hi⟩
  rw[hf];rw[show((0:Nat):Int)=0 from rfl]at h1;rw[h1,bs]
 ·refine .inr ⟨?_,fun hp=>h2 (hp i hi)⟩
  rw[hf];rw[show((0:Nat):Int)=0 from rfl]at h1;rw[h1,bs]
theorem tL{o:Option Bool}{P:Prop}{ρ:Type}{bad:ρ}{i:Nat}{g:Option (Int⊕(Unit⊕ρ))}(h:IsB o P)(hi:i<9223372036854775807)
  (hg:g=o.bind fun r=>cond (!r) (i7 (.inr (.inr bad))) ((rng ((i:Int)+1)).bind fun v=>i7 (.inl v))):(g=i7 (.inl ((i+1:Nat):Int))∧P)∨(g=i7 (.inr (.inr bad))∧ ¬P):=by
 subst hg;rcases h with⟨h1,h2⟩|⟨h1,h2⟩
 ·refine .inl ⟨?_,h2⟩
  rw[h1,bs,K7,zS,zC (by omega) (by omega),bs,cs]
 grind
theorem xJ{i n:Nat}(h:i<n):decide ((i:Int)<(n:Int))=i9:=by grind
theorem uH{n:Nat}:decide ((n:Int)<(n:Int))=ia:=by simp
theorem kJ(x a b:Int):IsB (zNy x a b) (a≤x∧x≤b):=by
 unfold zNy
 by_cases h:x≥a
 ·rw[ic h,zN];grind[IsB.of_bool]
 ·rw[ib h,zS];exact .inr ⟨rfl,by omega⟩
theorem zCy(x a b:Int):IsB (zSt x a b) (a≤x∧x≤b):=kJ x a b
def Prime(p:Int):Prop:=p=2∨p=3∨p=5∨p=7
theorem zBB(x:Int):IsB (zPN x) (Prime x):=by
 unfold zPN Prime
 by_cases h2:x=2
 ·subst h2;exact .inl ⟨rfl,.inl rfl⟩
 ·rw[show(x==2)=ia from by grind,zS]
  by_cases h3:x=3
  ·subst h3;exact .inl (by simp)
  ·rw[show(x==3)=ia from by grind,zS]
   by_cases h5:x=5
   ·subst h5;exact .inl (by simp)
   ·rw[show(x==5)=ia from by grind,zS]
    grind[IsB.of_bool]
theorem zHv(x:Int):IsB (zU4 x) (Prime x):=zBB x
abbrev at0(v:List Int)(i:Nat):Int:=v.getD i 0
theorem yW{v:List Int}{i:Nat}(h:i<v.length):ixO v (i:Int)=i7 (at0 v i):=by rw[zAG h,at0,J2,J4 h];rfl
def zWA(os v:List Int):Prop:=v.length=os.length∧ ∀i,i<v.length→0≤at0 v i∧at0 v i≤at0 os i-1
def Exp(os v:List Int)(k:Nat):Prop:=zWA os v∧ ∀i,i≤k→at0 v i=0
def Os(os:List Int):Prop:=os.length≤9∧ ∀i,i<os.length→Prime (at0 os i)
theorem Prime.pos{p:Int}(h:Prime p):2≤p∧p≤7:=by unfold Prime at h;omega
theorem zFv{x:SPr}{v:List Int}(ho:Os x.zA):IsB (zUD x v) (zWA x.zA v):=by
 unfold zUD
 by_cases h:v.length=x.zA.length
 ·rw[show((v.length:Int) != (x.zA.length:Int))=ia from by simp[h],zS]
  have h6:=ho.1;refine(kS v.length (fun i=>0≤at0 v i∧at0 v i≤at0 x.zA i-1) rfl (fun i hi _=>?_) ?_).iff ⟨fun g=>⟨h,g⟩,fun g=>g.2⟩
  ·have hp:=(ho.2 i (by omega)).pos
   refine tL (kJ _ _ _) (by omega) ?_;unfold zOX;rw[xJ hi,zN,yW hi,bs,yW (by omega),bs,zC (by omega) (by omega),bs]
  ·unfold zOX
   simp
 ·rw[show((v.length:Int) != (x.zA.length:Int))=i9 from by simp;omega,zN]
  exact .inr ⟨rfl,fun g=>h g.1⟩
theorem zLi{v:List Int}(hl:v.length≤9):IsB (f_V v) (∀i,i<v.length→at0 v i=0):=by
 refine kS v.length (fun i=>at0 v i=0) rfl (fun i hi _=>?_) ?_
 ·refine tL (o:=i7 (at0 v i==0)) (IsB.of_bool (by simp)) (by omega) ?_
  unfold zPO;rw[xJ hi,zN,yW hi,bs,bs];rfl
 ·unfold zPO
  simp
theorem zBZ{x:SPr}{k:Nat}{v:List Int}(ho:Os x.zA)(hk:k<x.zA.length):IsB (zSE x k v) (Exp x.zA v k):=by
 have h6:=ho.1;unfold zSE;rcases zFv (v:=v) ho with⟨h1,h2⟩|⟨h1,h2⟩
 ·have hl:=h2.1
  rw[h1,bs,zN,zC (by omega) (by omega),bs];have hs:yB v 0 ((k:Int)+1)=i7 (v.take (k+1)):=by
   unfold yB
   grind
  rw[hs,bs];have hb:=zLi (v:=v.take (k+1)) (by grind);have pS:(∀i,i<(v.take (k+1)).length→at0 (v.take (k+1)) i=0)↔Exp x.zA v k:=by
   have e:∀i,i≤k→at0 (v.take (k+1)) i=at0 v i:=by grind
   rw[Ka,Qs (by omega)];exact⟨fun g=>⟨h2,by grind⟩,fun g i hi=>by rw[e i (by omega)];exact g.2 i (by omega)⟩
  grind
 ·rw[h1,bs,zS]
  exact .inr ⟨rfl,fun g=>h2 g.1⟩
theorem zCz{os v:List Int}{k:Nat}(ho:Os os)(hk:k<os.length):IsB (zSu os v k) (Exp os v k):=by
 have h6:=ho.1;unfold zSu
 by_cases h:v.length=os.length
 ·rw[show((v.length:Int) != (os.length:Int))=ia from by simp[h],zS]
  refine(kS v.length (fun i=>(0≤at0 v i∧at0 v i≤at0 os i-1)∧(i≤k→at0 v i=0)) rfl (fun i hi _=>?_) ?_).iff ⟨fun g=>⟨⟨h,by grind⟩,by grind⟩,fun g i hi=>⟨g.1.2 i hi,fun hk=>g.2 i hk⟩⟩
  ·have hp:=(ho.2 i (by omega)).pos
   unfold zOT;rw[xJ hi,zN,yW hi,bs,yW (by omega),bs,zC (by omega) (by omega),bs];rcases zCy (at0 v i) 0 (at0 os i-1)with⟨h1,h2⟩|⟨h1,h2⟩
   ·rw[h1,bs,K7,zS]
    by_cases h3:(i:Int)≤(k:Int)
    ·rw[ic h3,zN,bs]
     by_cases h4:at0 v i=0
     ·rw[show(at0 v i != 0)=ia from by grind,zS,zC (by omega) (by omega),bs,cs]
      grind
     grind
    ·rw[ib h3,zS,zC (by omega) (by omega),bs,cs]
     grind
   grind
  ·unfold zOT
   simp
 ·rw[show((v.length:Int) != (os.length:Int))=i9 from by simp;omega,zN]
  exact .inr ⟨rfl,fun g=>h g.1.1⟩
end Go.Pl

namespace Go.Pl
open Go Go.Ab Go.Wk
theorem zZN{σ ρ:Type}{body:σ→Option (σ⊕(Unit⊕ρ))}(S:Nat→σ)(n i0:Nat)(hn:i0≤n)(P:Nat→Prop)(bad:Nat→ρ)
  (h:∀i,i0≤i→i<n→(∀j,i0≤j→j<i→P j)→(body (S i)=i7 (.inl (S (i+1)))∧P i)∨(body (S i)=i7 (.inr (.inr (bad i)))∧ ¬P i))
  (he:body (S n)=i7 (.inr (.inl ()))):
  (zJ body (S i0)=i7 (.inl ())∧ ∀j,i0≤j→j<n→P j)∨ ∃i,i0≤i∧i<n∧zJ body (S i0)=i7 (.inr (bad i))∧ ¬P i:=by
 have key:∀k i,i0≤i→i+k=n→(∀j,i0≤j→j<i→P j)→(zJ body (S i)=i7 (.inl ())∧ ∀j,i0≤j→j<n→P j)∨ ∃q,i0≤q∧q<n∧zJ body (S i)=i7 (.inr (bad q))∧ ¬P q:=by
  intro k
  induction k with
  |zero=>
   intro i hi hk hp;obtain rfl:i=n:=by omega
   grind[xT]
  |succ k ih=>
   intro i hi hk hp;rcases h i hi (by omega) hp with⟨h1,h2⟩|⟨h1,h2⟩
   ·have:=ih (i+1) (by omega) (by omega) (by grind)
    rw[xT,h1];exact this
   grind[xT]
 exact key (n-i0) i0 (Ji _) (by omega) fun j a b=>by omega
theorem zAb{a b:Int}(h:a=b):(a != b)=ia:=by simp[h]
theorem zAc{a b:Int}(h:a≠b):(a != b)=i9:=by simp[h]
def pr(os:List Int):Nat→Int
 |0=>1
 |i+1=>pr os i*at0 os i
def cp(os:List Int):Nat→Int
 |0=>1
 |i+1=>if cp os i≤729 then cp os i*at0 os i else cp os i
theorem zHw{os:List Int}:∀{i:Nat},(∀j,j<i→Prime (at0 os j))→1≤pr os i
 |0,_=>by simp[pr]
 |i+1,h=>by have h1:=zHw (os:=os) (i:=i) (by grind);have h2:=(h i (by omega)).pos;simp only[pr];have:(1:Int)*1≤pr os i*at0 os i:=Lm h1 (by omega) (by omega) (by omega);omega
theorem zOt{os:List Int}{i:Nat}(h:∀j,j≤i→Prime (at0 os j)):pr os i≤pr os (i+1):=by have h1:=zHw (os:=os) (i:=i) (by grind);have h2:=(h i (Ji _)).pos;simp only[pr];have:pr os i*1≤pr os i*at0 os i:=Qn (by omega) (by omega);omega
theorem zOu{os:List Int}{n:Nat}(h:∀j,j<n→Prime (at0 os j)):∀k,k≤n→pr os (n-k)≤pr os n
 |0,_=>Int.le_refl _
 |k+1,hk=>by
  have h1:=zOu h k (by omega);have h2:=zOt (os:=os) (i:=n-(k+1)) (by grind)
  grind
theorem zRw{os:List Int}:∀{i:Nat},(∀j,j<i→Prime (at0 os j))→(cp os i=pr os i∧pr os i≤729∨729<cp os i∧cp os i≤5103∧729<pr os i)
 |0,_=>by simp[cp,pr]
 |i+1,h=>by
  have h0:∀j,j<i→Prime (at0 os j):=by grind
  have h2:=(h i (by omega)).pos;have h3:=zOt (os:=os) (i:=i) (by grind);have dR:=zHw h0;simp only[cp];rcases zRw h0 with⟨h1,h4⟩|⟨h1,h4,h5⟩
  ·rw[h1,if_pos h4]
   have h6:pr os i*at0 os i≤729*7:=Lm h4 h2.2 (by omega) (by omega);simp only[pr]at h3 ⊢
   grind
  omega
def zFS(x:SPr)(i:Nat):Prop:=Exp x.zA (x.zT.getD i []) i∧(x.zF.getD i []).length+i+1=x.zA.length∧ ∀j,j<(x.zF.getD i []).length→Exp x.zA ((x.zF.getD i []).getD j []) i
structure zFT (x:SPr):Prop where
 os:True∧ ∀i,i<x.zA.length→Prime (at0 x.zA i)
 pl:x.zT.length=x.zA.length
 cl:x.zF.length=x.zA.length
 tl:∀i,i<x.zA.length→zFS x i
structure Pres (x:SPr):Prop where
 os:Os x.zA
 pl:x.zT.length=x.zA.length
 cl:x.zF.length=x.zA.length
 tl:∀i,i<x.zA.length→zFS x i
theorem Pres.w{x:SPr}(h:Pres x):zFT x:=⟨⟨trivial,h.os.2⟩,h.pl,h.cl,h.tl⟩
structure zFU (x:SPr):Prop extends Pres x where
 n6:x.zA.length≤6
 pr:pr x.zA x.zA.length≤729
theorem yX{α:Type}{v:List α}{i:Nat}(d:α)(h:i<v.length):ixO v (i:Int)=i7 (v.getD i d):=by grind[zAG]
theorem zMK{x:SPr}(ho:Os x.zA)(hp:x.zT.length=x.zA.length)(hc:x.zF.length=x.zA.length){i:Nat}(hi:i<x.zA.length):
  (zN0 x i=i7 (.inl ((i+1:Nat):Int))∧zFS x i)∨(zN0 x i=i7 (.inr (.inr ia))∧ ¬zFS x i):=by
 have h6:=ho.1;unfold zN0;rw[xJ hi,zN,yX [] (by omega),bs];rcases zBZ (v:=x.zT.getD i []) ho hi with⟨h1,h2⟩|⟨h1,h2⟩
 ·rw[h1,bs,K7,zS,yX [] (by omega),bs,zC (by omega) (by omega),bs,zC (by omega) (by omega),bs]
  by_cases hl:(x.zF.getD i []).length+i+1=x.zA.length
  ·rw[zAb (by omega),zS,bs]
   rcases chk (body:=zSF x i (x.zF.getD i [])) (x.zF.getD i []).length 0 (Km _) (fun j=>Exp x.zA ((x.zF.getD i []).getD j []) i) (fun _=>ia) (fun j _ hj _=>by
     refine tL (zBZ ho hi) (by omega) ?_;unfold zSF;rw[xJ hj,zN,yX [] hj,bs]) (by
     unfold zSF;simp)with⟨g1,g2⟩|⟨j,_,hj,g1,g2⟩
   ·rw[show((0:Nat):Int)=0 from rfl]at g1
    rw[g1,bs];simp only
    rw[zC (by omega) (by omega),bs,cs];exact .inl ⟨rfl,h2,hl,by grind⟩
   ·rw[show((0:Nat):Int)=0 from rfl]at g1
    rw[g1,bs];exact .inr ⟨rfl,fun g=>g2 (g.2.2 j hj)⟩
  ·rw[zAc (by omega),zN]
   exact .inr ⟨rfl,fun g=>hl g.2.1⟩
 ·rw[h1,bs,Kr,zN]
  exact .inr ⟨rfl,fun g=>h2 g.1⟩
theorem zML{x:SPr}(ho:Os x.zA)(hp:x.zT.length=x.zA.length)(hc:x.zF.length=x.zA.length){i:Nat}(hi:i<x.zA.length):
  (zNv x i=i7 (.inl ((i+1:Nat):Int))∧zFS x i)∨(zNv x i=i7 (.inr (.inr ia))∧ ¬zFS x i):=by
 have h6:=ho.1;unfold zNv;rw[xJ hi,zN,yX [] (by omega),bs];rcases zCz (v:=x.zT.getD i []) ho hi with⟨h1,h2⟩|⟨h1,h2⟩
 ·rw[h1,bs,K7,zS,yX [] (by omega),bs,zC (by omega) (by omega),bs,zC (by omega) (by omega),bs]
  by_cases hl:(x.zF.getD i []).length+i+1=x.zA.length
  ·rw[zAb (by omega),zS]
   rcases chk (body:=zSw x i) (x.zF.getD i []).length 0 (Km _) (fun j=>Exp x.zA ((x.zF.getD i []).getD j []) i) (fun _=>ia) (fun j _ hj _=>by
     refine tL (zCz ho hi) (by omega) ?_;unfold zSw;rw[yX [] (by omega),bs,xJ hj,zN,bs,yX [] hj,bs]) (by
     unfold zSw;rw[yX [] (by omega),bs,uH,zS])with⟨g1,g2⟩|⟨j,_,hj,g1,g2⟩
   ·rw[show((0:Nat):Int)=0 from rfl]at g1
    rw[g1,bs];simp only
    rw[zC (by omega) (by omega),bs,cs];exact .inl ⟨rfl,h2,hl,by grind⟩
   ·rw[show((0:Nat):Int)=0 from rfl]at g1
    rw[g1,bs];exact .inr ⟨rfl,fun g=>g2 (g.2.2 j hj)⟩
  ·rw[zAc (by omega),zN]
   exact .inr ⟨rfl,fun g=>hl g.2.1⟩
 ·rw[h1,bs,Kr,zN]
  exact .inr ⟨rfl,fun g=>h2 g.1⟩
theorem zLj{x:SPr}(h6:x.zA.length≤6):
  (zJ (zNz x) (1,0)=i7 (.inl ())∧Os x.zA∧pr x.zA x.zA.length≤729)∨(zJ (zNz x) (1,0)=i7 (.inr ia)∧ ¬(Os x.zA∧pr x.zA x.zA.length≤729)):=by
 rcases zZN (body:=zNz x) (fun i=>(pr x.zA i,(i:Int))) x.zA.length 0 (Km _) (fun i=>Prime (at0 x.zA i)∧pr x.zA (i+1)≤729) (fun _=>ia) (fun i _ hi pj=>by
   have hp:∀j,j<i→Prime (at0 x.zA j):=by grind
   have dR:=zHw hp;have cO:pr x.zA i≤729:=by
    cases i with
    |zero=>simp[pr]
    |succ i=>grind
   unfold zNz;rw[xJ hi,zN,yW hi,bs];rcases zBB (at0 x.zA i)with⟨h1,h2⟩|⟨h1,h2⟩
   ·have h3:=h2.pos
    have h4:pr x.zA i*at0 x.zA i≤729*7:=Lm cO h3.2 (by omega) (by omega);have h5:1*1≤pr x.zA i*at0 x.zA i:=Lm dR (by omega) (by omega) (by omega);simp only
    rw[h1,bs,K7,zS,zC (by omega) (by omega),bs]
    by_cases h7:pr x.zA i*at0 x.zA i> 729
    ·rw[ic h7,zN]
     exact .inr ⟨rfl,by grind[pr]⟩
    ·rw[ib h7,zS,bs,zC (by omega) (by omega),bs,cs]
     exact .inl ⟨rfl,h2,by grind[pr]⟩
   grind) (by
   unfold zNz;simp)with⟨g1,g2⟩|⟨i,_,hi,g1,g2⟩
 ·refine .inl ⟨g1,⟨by omega,by grind⟩,?_⟩
  cases hn:x.zA.length with
  |zero=>simp[pr]
  |succ n=>grind
 ·refine .inr ⟨g1,fun⟨h1,h2⟩=>g2 ⟨h1.2 i hi,?_⟩⟩
  have:=zOu (os:=x.zA) (n:=x.zA.length) h1.2 (x.zA.length-(i+1)) (by omega)
  grind
theorem zJE{os:List Int}(ho:Os os):zU5 os=i7 (cp os os.length):=by
 have h6:=ho.1;unfold zU5;rw[show(1,0)=(fun i=>(cp os i,(i:Int))) 0 from rfl,zY (body:=zLX os) (r:=cp os os.length) (fun i=>(cp os i,(i:Int))) os.length (fun i hi=>by
  have hp:=(ho.2 i hi).pos;have hc:=zRw (os:=os) (i:=i) fun j hj=>ho.2 j (by omega)
  have dR:=zHw (os:=os) (i:=i) fun j hj=>ho.2 j (by omega)
  unfold zLX;rw[xJ hi,zN];simp only[cp]
  by_cases h:cp os i≤729
  ·have h4:cp os i*at0 os i≤729*7:=Lm h hp.2 (by omega) (by omega)
   have h5:1*1≤cp os i*at0 os i:=Lm (by omega) (by omega) (by omega) (by omega);rw[ic h,zN,yW hi,bs,zC (by omega) (by omega),bs,zC (by omega) (by omega),bs,cs,if_pos h]
  ·rw[ib h,zS,zC (by omega) (by omega),bs,cs,if_neg h]) (by
  unfold zLX;simp),bs]
theorem zDo{x:SPr}(hl:x.zA.length≤1048576):IsB (f_t x) (zFU x):=by
 unfold f_t
 by_cases h6:x.zA.length≤6
 ·rw[ib (by omega),zS]
  by_cases hp:x.zT.length=x.zA.length
  ·rw[zAb (by omega),zS]
   by_cases hc:x.zF.length=x.zA.length
   ·rw[zAb (by omega),zS]
    rcases zLj h6 with⟨h1,h2,h3⟩|⟨h1,h2⟩
    ·rw[h1,bs]
     exact(kS (f:=(zJ (zN0 x) 0).bind fun r=>match r with|.inl _=>i7 i9|.inr r=>i7 r) x.zA.length (zFS x) rfl (by grind[zMK]) (by unfold zN0;simp)).iff ⟨fun g=>⟨⟨h2,hp,hc,g⟩,h6,h3⟩,fun g=>g.tl⟩
    ·rw[h1,bs]
     exact .inr ⟨rfl,fun g=>h2 ⟨g.os,g.pr⟩⟩
   ·rw[zAc (by omega),zN]
    exact .inr ⟨rfl,fun g=>hc g.cl⟩
  ·rw[zAc (by omega),zN]
   exact .inr ⟨rfl,fun g=>hp g.pl⟩
 ·rw[ic (by omega),zN]
  exact .inr ⟨rfl,fun g=>h6 g.n6⟩
theorem zDp{x:SPr}(hl:x.zA.length≤1048576):IsB (f_x x) (zFU x):=by
 unfold f_x
 by_cases h6:x.zA.length≤6
 ·rw[ib (by omega),zS]
  by_cases hp:x.zT.length=x.zA.length
  ·rw[zAb (by omega),zS]
   by_cases hc:x.zF.length=x.zA.length
   ·rw[zAb (by omega),zS]
    rcases chk (body:=zSv x) x.zA.length 0 (Km _) (fun i=>Prime (at0 x.zA i)) (fun _=>ia) (fun i _ hi _=>by
      refine tL (zHv _) (by omega) ?_;unfold zSv;rw[xJ hi,zN,yW hi,bs]) (by
      unfold zSv;simp)with⟨g1,g2⟩|⟨i,_,hi,g1,g2⟩
    ·rw[show((0:Nat):Int)=0 from rfl]at g1
     have ho:Os x.zA:=⟨by omega,by grind⟩;have hcp:=zRw (os:=x.zA) (i:=x.zA.length) ho.2;rw[g1,bs];simp only
     rw[zJE ho,bs]
     by_cases h7:cp x.zA x.zA.length> 729
     ·rw[ic h7,zN]
      exact .inr ⟨rfl,fun g=>by have:=g.pr;omega⟩
     ·rw[ib h7,zS]
      exact(kS (f:=(zJ (zNv x) 0).bind fun r=>match r with|.inl _=>i7 i9|.inr r=>i7 r) x.zA.length (zFS x) rfl (by grind[zML]) (by unfold zNv;simp)).iff ⟨fun g=>⟨⟨ho,hp,hc,g⟩,h6,by omega⟩,fun g=>g.tl⟩
    ·rw[show((0:Nat):Int)=0 from rfl]at g1
     rw[g1,bs];exact .inr ⟨rfl,fun g=>g2 (g.os.2 i hi)⟩
   ·rw[zAc (by omega),zN]
    exact .inr ⟨rfl,fun g=>hc g.cl⟩
  ·rw[zAc (by omega),zN]
   exact .inr ⟨rfl,fun g=>hp g.pl⟩
 ·rw[ic (by omega),zN]
  exact .inr ⟨rfl,fun g=>h6 g.n6⟩
end Go.Pl

namespace Go.Pl
open Go Go.Ab Go.Wk Go.Pc
def lvl(x:SPr)(i:Nat):Lvl:=⟨at0 x.zA i,(x.zT.getD i []).drop (i+1),(x.zF.getD i []).map (·.drop (i+1))⟩
def suf(x:SPr)(k:Nat):Pcp:=(Ku k (x.zA.length-k)).map (lvl x)
theorem yN(x:SPr)(k:Nat):(suf x k).length=x.zA.length-k:=by simp[suf]
theorem yE{x:SPr}{k:Nat}(h:k<x.zA.length):suf x k=lvl x k::suf x (k+1):=by unfold suf;rw[show x.zA.length-k=(x.zA.length-(k+1))+1 from by omega,Jcr,Jo]
theorem vO{x:SPr}{k:Nat}(h:x.zA.length≤k):suf x k=[]:=by unfold suf;rw[show x.zA.length-k=0 from by omega];rfl
theorem zAr{os v:List Int}{k:Nat}(h:Exp os v k)(hk:k<os.length):v=zeros (k+1)++v.drop (k+1):=by
 have h1:=h.1.1;apply Kv;intro i;rw[Kk];simp only[zeros,Jf,Ke,He];split
 ·rename_i hi
  have h2:=h.2 i (by omega);rw[J4 (by omega)];rw[at0,J2,J4 (by omega)]at h2;simpa using h2
 ·rw[show k+1+(i-(k+1))=i from by omega]
theorem zWB{x:SPr}:∀(d k:Nat)(v:List Int),k+d=x.zA.length→v.length=d→(∀i,i<d→0≤at0 v i∧at0 v i≤at0 x.zA (k+i)-1)→V (suf x k) v
 |0,k,v,hk,hv,_=>by rw[vO (by omega)];simpa[V]using hv
 |d+1,k,v,hk,hv,h=>by
  rw[yE (by omega)]
  match v,hv with
  |a::v,hv=>
   have h0:=h 0 (by omega);simp only[at0,Hf,Qd]at h0;refine⟨⟨h0.1,by simp only[lvl,at0];omega⟩,zWB d (k+1) v (by omega) (by simpa using hv) fun i hi=>?_⟩;have:=h (i+1) (by omega);simp only[at0,Uz]at this;rw[show k+1+i=k+(i+1)from by omega];exact this
theorem jM{x:SPr}{v:List Int}{k:Nat}(h:Exp x.zA v k)(hk:k<x.zA.length):V (suf x (k+1)) (v.drop (k+1)):=by
 have h1:=h.1.1;refine zWB (x.zA.length-(k+1)) (k+1) _ (by omega) (by rw[Jz];omega) fun i hi=>?_
 have:=h.1.2 (k+1+i) (by omega);have e:at0 (v.drop (k+1)) i=at0 v (k+1+i):=by simp only[at0,J2,He]
 rw[e];exact this
theorem zFT.ok{x:SPr}(h:zFT x):∀(d k:Nat),k+d=x.zA.length→Pc.Ok (suf x k)
 |0,k,hk=>by rw[vO (by omega)];simp only[Pc.Ok]
 |d+1,k,hk=>by
  rw[yE (by omega)];obtain⟨t1,t2,t3⟩:=h.tl k (by omega);refine⟨by simp only[lvl];have:=(h.os.2 k (by omega)).pos;omega,jM t1 (by omega),?_,fun c hc=>?_,zFT.ok h d (k+1) (by omega)⟩
  ·rw[yN];simp only[lvl,Jh];omega
  ·simp only[lvl,Jm]at hc
   obtain⟨u,hu,rfl⟩:=hc;obtain⟨j,hj,rfl⟩:=L6.1 hu;have:=t3 j hj;rw[J2,J4 hj]at this;exact jM this (by omega)
theorem zFT.okAt{x:SPr}(h:zFT x){k:Nat}(hk:k≤x.zA.length):Pc.Ok (suf x k):=h.ok (x.zA.length-k) k (by omega)
theorem Pres.okAt{x:SPr}(h:Pres x){k:Nat}(hk:k≤x.zA.length):Pc.Ok (suf x k):=h.w.okAt hk
theorem zZ(n:Nat):(zeros n).length=n:=by simp[zeros]
theorem zFV(k:Nat):zeros (k+1)=zeros k++[0]:=by simp[zeros,Lu]
theorem zD1{k:Nat}{a b:Int}{v:Vec}:(zeros k++a::v).set k b=zeros k++b::v:=by rw[Ud _ _ (by rw[zZ];omega),zZ,Kl,H2]
theorem zC0{k:Nat}{a:Int}{v:Vec}:ixO (zeros k++a::v) (k:Int)=i7 a:=by rw[vT,J9 (by rw[zZ];omega),zZ,Kl];rfl
theorem zBC{k:Nat}{v:Vec}:zeros k++0::v=zeros (k+1)++v:=by rw[zFV,Jc];rfl
theorem qL{v:List Int}(h:v.length≤1000000):f_y v=i7 v:=by unfold f_y;rw[yT (by simp;omega),bs,Jt]
end Go.Pl

namespace Go.Pl
open Go Go.Ab Go.Wk Go.Pc
theorem zBp{m:Vec→Vec→Vec}:∀(cs:List Vec)(x:Vec)(i:Nat)(acc:Vec),i<cs.length→i<x.length→
  img m (cs.take (i+1)) (x.take (i+1)) acc=iter (at0 x i).toNat (fun v=>m v (cs.getD i [])) (img m (cs.take i) (x.take i) acc)
 | [],_,_,_,h,_=>by simp at h
 |_::_,[],_,_,_,h=>by simp at h
 |c::cs,a::x,0,acc,_,_=>by rfl
 |c::cs,a::x,i+1,acc,h,h'=>by simp only[Ld,img,at0,Uz];exact zBp cs x i _ (by grind) (by grind)
theorem vQ{α β:Type}{body:α×Int→Option ((α×Int)⊕α)}{S:β→Prop}(e:β→α)(g:β→β)(n:Int)(hn:0≤n)(hS:∀a,S a→S (g a))
  (h:∀a(i:Nat),S a→(i:Int)<n→body (e a,(i:Int))=i7 (.inl (e (g a),((i+1:Nat):Int))))(he:∀a,S a→body (e a,n)=i7 (.inr (e a))){a:β}(ha:S a):
  zJ body (e a,0)=i7 (e (iter n.toNat g a)):=by
 have ef:∀k,S (iter k g a):=fun k=>vL (S:=S) hS k ha
 exact zY (body:=body) (r:=e (iter n.toNat g a)) (fun i=>(e (iter i g a),(i:Int))) n.toNat (by grind[vB]) (by grind)
theorem zLk{k i:Nat}{v:Vec}(h:i<v.length):ixO (zeros k++v) ((k+i:Nat):Int)=i7 (at0 v i):=by rw[vT,J9 (by grind[zZ]),zZ,show k+i-k=i from by omega,J4 h,at0,J2,J4 h];rfl
theorem zDO{x:SPr}(ho:Os x.zA):∀(d k:Nat)(v:List Int),k+d=x.zA.length→V (suf x k) v→v.length=d∧ ∀i,i<d→0≤at0 v i∧at0 v i<at0 x.zA (k+i)∧at0 v i≤6
 |0,k,v,hk,hv=>by
  rw[vO (by omega)]at hv;simp only[V]at hv
  grind
 |d+1,k,v,hk,hv=>by
  rw[yE (by omega)]at hv
  match v,hv with
  |a::v,hv=>
   obtain⟨h1,h2⟩:=zDO ho d (k+1) v (by omega) hv.2;refine⟨by simp[h1],fun i hi=>?_⟩;cases i with
   |zero=>
    have h3:=hv.1;simp only[lvl]at h3;have:=(ho.2 k (by omega)).pos
    grind
   |succ i=>
    grind
theorem zE4{x:SPr}(h:Pres x){k i:Nat}(hk:k<x.zA.length)(hi:i<x.zA.length-(k+1)):
  ∃c,ixO x.zF (k:Int)=i7 (x.zF.getD k [])∧ixO (x.zF.getD k []) (i:Int)=i7 (zeros (k+1)++c)∧V (suf x (k+1)) c∧(lvl x k).cs.getD i []=c:=by
 obtain⟨t1,t2,t3⟩:=h.tl k hk;have hc:=h.cl
 grind[yX,jM,zAr,lvl]
def FAt(x:SPr)(k:Nat)(g:SPr→Int→List Int→List Int→Option (List Int)):Prop:=
 ∀a b,V (suf x k) a→V (suf x k) b→g x k (zeros k++a) (zeros k++b)=i7 (zeros k++mul (suf x k) a b)
def FIm(x:SPr)(k:Nat)(g:SPr→Int→List Int→Option (List Int)):Prop:=
 ∀v,V (suf x (k+1)) v→g x k (zeros (k+1)++v)=i7 (zeros (k+1)++sig (suf x (k+1)) (lvl x k) v)
theorem zMM{x:SPr}(h:Pres x){k:Nat}(hk:k<x.zA.length){g:SPr→Int→List Int→List Int→Option (List Int)}(hg:FAt x (k+1) g):FIm x k (b_g g):=by
 intro v hv;have h6:=h.os.1;have ok:=h.okAt (k:=k+1) (by omega);obtain⟨p5,aO⟩:=zDO h.os (x.zA.length-(k+1)) (k+1) v (by omega) hv;have gj:=yN x (k+1);have gE:(lvl x k).cs.length=x.zA.length-(k+1):=by have:=h.okAt (k:=k) (by omega);rw[yE hk]at this;rw[this.2.2.1,gj]
 have gZ:∀c∈(lvl x k).cs,V (suf x (k+1)) c:=by have:=h.okAt (k:=k) (by omega);rw[yE hk]at this;exact this.2.2.2.1
 have hA:∀i,V (suf x (k+1)) (img (mul (suf x (k+1))) ((lvl x k).cs.take i) (v.take i) (zeros (suf x (k+1)).length)):=fun i=>
  qO (xE ok) _ _ (by grind) (wO ok)
 unfold b_g;rw[xP (by omega),bs,zC (by omega) (by omega),bs,cs];have hz:J1 x.zA.length (0:Int)=zeros (k+1)++zeros (suf x (k+1)).length:=by rw[gj];simp only[zeros,Jk];congr 1;omega
 rw[hz];have:=zY (body:=zSy g x k (zeros (k+1)++v)) (r:=zeros (k+1)++sig (suf x (k+1)) (lvl x k) v)
  (fun i=>(zeros (k+1)++img (mul (suf x (k+1))) ((lvl x k).cs.take i) (v.take i) (zeros (suf x (k+1)).length),((k+1+i:Nat):Int))) (x.zA.length-(k+1)) (fun i hi=>by
  have hr:=aO i hi;obtain⟨c,c1,c2,c3,c4⟩:=zE4 h hk hi;unfold zSy;rw[ic (by omega),zN];rw[vQ (S:=V (suf x (k+1))) (body:=zSx g x k (zeros (k+1)++v) (zeros (k+1)++img (mul (suf x (k+1))) ((lvl x k).cs.take i) (v.take i) (zeros (suf x (k+1)).length),((k+1+i:Nat):Int))) (fun u=>zeros (k+1)++u) (fun u=>mul (suf x (k+1)) u c) (at0 v i) hr.1 (by grind[xE]) (fun u q hu hq=>by
   unfold zSx;simp only
   rw[zLk (by omega),bs,ic hq,zN,zC (by omega) (by omega),bs,c1,bs,zC (by omega) (by omega),bs,zC (by omega) (by omega),bs,
    show(((k+1+i:Nat):Int)-(k:Int)-1)=(i:Int)from by omega,c2,bs,cs,hg u c hu c3,bs,zC (by omega) (by omega),bs,cs]) (fun u hu=>by
   unfold zSx;simp only
   rw[zLk (by omega),bs,ib (by omega),zS]) (hA i),bs,zC (by omega) (by omega),bs,cs]
  rw[zBp _ _ _ _ (by omega) (by omega),c4];rfl) (by
  unfold zSy;rw[ib (by omega),zS,Jr (by omega),Jr (by omega)];rfl)
 grind[img]
theorem zUc{x:SPr}(h:Pres x){k:Nat}(hk:k<x.zA.length){g:SPr→Int→List Int→List Int→Option (List Int)}{gi:SPr→Int→List Int→Option (List Int)}(hg:FAt x (k+1) g)(hi:FIm x k gi):FAt x k (b_a gi g):=by
 intro a b ha hb;have h6:=h.os.1;have hp:=(h.os.2 k hk).pos;have ok:=h.okAt (k:=k+1) (by omega);have ok0:=h.okAt (k:=k) (by omega);obtain⟨bj,har⟩:=zDO h.os (x.zA.length-k) k a (by omega) ha;obtain⟨cG,hbr⟩:=zDO h.os (x.zA.length-k) k b (by omega) hb;rw[yE hk]at ha hb ok0;obtain⟨a0,a,rfl⟩:∃a0 a',a=a0::a':=by cases a with|nil=>grind|cons p q=>simp
 obtain⟨b0,b,rfl⟩:∃a0 a',b=a0::a':=by cases b with|nil=>grind|cons p q=>simp
 obtain⟨⟨a1,a2⟩,ha⟩:=ha;obtain⟨⟨b1,b2⟩,hb⟩:=hb;have pO:(lvl x k).o=at0 x.zA k:=rfl;rw[pO]at a2 b2;unfold b_a;rw[ib (by omega),zS,qL (by grind[zZ]),bs,qL (by simp[zZ]at cG ⊢;omega),bs,zC0,bs,zC0,bs,Ja,zD1,zD1,zBC,zBC];have ej:∀u,V (suf x (k+1)) u→V (suf x (k+1)) (sig (suf x (k+1)) (lvl x k) u):=by grind[zCw]
 have ef:V (suf x (k+1)) (iter b0.toNat (sig (suf x (k+1)) (lvl x k)) a):=vL ej _ ha;rw[vQ (S:=V (suf x (k+1))) (fun u=>zeros (k+1)++u) (sig (suf x (k+1)) (lvl x k)) b0 b1 ej (fun u q hu hq=>by
   unfold zU6;simp only
   rw[zC0,bs,ic hq,zN,hi u hu,bs,zC (by omega) (by omega),bs,cs]) (fun u hu=>by
   unfold zU6;simp only
   rw[zC0,bs,ib (by omega),zS]) ha,bs,zC (by omega) (by omega),bs,cs,hg _ _ ef hb,bs,bs,bs,zC (by omega) (by omega),bs,yW hk,bs]
 have hm:=xE ok ef hb;have u5:=(zDO h.os (x.zA.length-(k+1)) (k+1) _ (by omega) hm).1;have own:∀u,V (suf x (k+1)) u→f_y (zeros (k+1)++u)=i7 (zeros (k+1)++u):=fun u hu=>qL (by
  have:=(zDO h.os (x.zA.length-(k+1)) (k+1) _ (by omega) hu).1
  grind[zZ])
 rw[yE hk,yY,pO]
 by_cases hge:a0+b0≥at0 x.zA k
 ·have t1:=(h.tl k hk).1
  have hw:=jM t1 hk;have hwl:=h.pl;rw[ic hge,zN,if_pos hge,bs,zC (by omega) (by omega),bs,bs,yX [] (by omega),bs,zAr t1 hk,hg _ _ hw hm,bs,own _ (xE ok hw hm),bs];rw[←zBC,zC0,bs,zD1];rfl
 ·rw[ib hge,zS,if_neg hge,own _ hm,bs,←zBC,zC0,bs,zD1]
theorem zFw{x:SPr}(h:Pres x):∀(d k:Nat),k+d=x.zA.length→(∀m,2*d+1≤m→FAt x k (zNx m))∧(1≤d→ ∀m,2*d≤m→FIm x k (zNw m))
 |0,k,hk=>by
  refine⟨fun m hm a b ha hb=>?_,fun h=>by omega⟩;have h6:=h.os.1;obtain⟨m,rfl⟩:∃m',m=m'+1:=⟨m-1,by omega⟩;show b_a _ _ x k _ _=_;unfold b_a;rw[ic (by omega),zN,xP (by omega),bs,vO (by omega)]
  grind[mul,zeros]
 |d+1,k,hk=>by
  obtain⟨h1,h2⟩:=zFw h d (k+1) (by omega);have hI:∀m,2*(d+1)≤m→FIm x k (zNw m):=fun m hm=>by obtain⟨m,rfl⟩:∃m',m=m'+1:=⟨m-1,by omega⟩;exact zMM h (by omega) (h1 m (by omega))
  refine⟨fun m hm=>?_,fun _=>hI⟩;obtain⟨m,rfl⟩:∃m',m=m'+1:=⟨m-1,by omega⟩;exact zUc h (by omega) (h1 m (by omega)) (hI m (by omega))
theorem zOv{x:SPr}(h:Pres x){k:Nat}(hk:k≤x.zA.length):FAt x k f_a:=fun a b ha hb=>
 zBm (2*(x.zA.length-k)+1) fun m hm=>(zFw h (x.zA.length-k) k (by omega)).1 m hm a b ha hb
theorem zMN{x:SPr}(h:Pres x){k:Nat}(hk:k<x.zA.length):FIm x k f_g:=fun v hv=>
 zBm (2*(x.zA.length-k)) fun m hm=>(zFw h (x.zA.length-k) k (by omega)).2 (by omega) m hm v hv
end Go.Pl

namespace Go.Pl
open Go Go.Ab Go.Wk Go.Pc
theorem zC1:∀{P Q:Pcp},Q<:+P→wR P→wR Q
 | [],Q,h,_=>by grind
 |l::P,Q,h,hc=>by
  rcases Jae.1 h with rfl|h
  ·exact hc
  ·exact zC1 h hc.1
theorem zIQ:∀{P Q:Pcp},Q<:+P→Pc.Ok P→Pc.Ok Q
 | [],Q,h,_=>by grind
 |l::P,Q,h,hc=>by
  rcases Jae.1 h with rfl|h
  ·exact hc
  ·exact zIQ h hc.2.2.2.2
theorem zMO(x:SPr)(k:Nat):suf x (k+1)<:+suf x k:=by grind[yE,vO]
theorem zE5{x:SPr}{k:Nat}(h:wR (suf x k)):∀i,wR (suf x (k+i))
 |0=>h
 |i+1=>zC1 (zMO x (k+i)) (zE5 h i)
theorem zHx{x:SPr}(h:Pres x){k:Nat}(hk:k≤x.zA.length)(hc:wR (suf x k)):Grp (V (suf x k)) (mul (suf x k)) (zeros (suf x k).length):=zCx _ (h.okAt hk) hc
theorem zGo{x:SPr}:∀(i k:Nat)(v:Vec),k+i≤x.zA.length→V (suf x k) v→ ∃q v',v=q++v'∧q.length=i∧V (suf x (k+i)) v'∧
  ∀a b,V (suf x (k+i)) a→V (suf x (k+i)) b→mul (suf x k) (q++a) (zeros i++b)=q++mul (suf x (k+i)) a b
 |0,k,v,_,hv=>⟨[],v,rfl,rfl,hv,fun a b _ _=>rfl⟩
 |i+1,k,v,hk,hv=>by
  rw[yE (by omega)]at hv
  match v,hv with
  |e::v,hv=>
   obtain⟨q,v',h1,h2,h3,h4⟩:=zGo i (k+1) v (by omega) hv.2;rw[show k+1+i=k+(i+1)from by omega]at h3 h4;refine⟨e::q,v',by grind,by simp[h2],h3,fun a b ha hb=>?_⟩;have he:=hv.1;rw[yE (by omega)];show mul (lvl x k::suf x (k+1)) (e::(q++a)) (0::(zeros i++b))=_;rw[yY,Ly,if_neg (by omega)]
   grind[iter]
def FTV(x:SPr)(k:Nat)(g:SPr→List Int→List Int→Option (List Int)):Prop:=
 ∀p v u,p.length=k→V (suf x k) v→V (suf x k) u→g x (p++v) (zeros k++u)=i7 (p++mul (suf x k) v u)
def FTG(x:SPr)(k:Nat)(g:SPr→List Int→Int→Option (List Int)):Prop:=
 ∀p v,p.length=k→V (suf x k) v→g x (p++v) (k:Int)=i7 (p++mul (suf x k) v (1::zeros (x.zA.length-(k+1))))
theorem zIR{x:SPr}(h:Pres x){k:Nat}(hk:k<x.zA.length){g:SPr→List Int→List Int→Option (List Int)}(hg:FTV x (k+1) g){t:Vec}(ht:V (suf x (k+1)) t)
  {body1:List Int×Int→Int→List Int×Int→Option ((List Int×Int)⊕List Int)}{body2:List Int×Int→Option ((List Int×Int)⊕List Int)}
  (pI:∀s,body2 s=cond (decide (s.2<(t.length:Int))) ((ixO t s.2).bind fun v17=>(zJ (body1 s v17) (s.1,0)).bind fun r=>(rng (s.2+1)).bind fun v=>i7 (.inl (r,v))) (i7 (.inr s.1)))
  (uz:∀s v q,body1 s v q=cond (decide (q.2<v)) ((ixO x.zF (k:Int)).bind fun cl=>(ixO cl s.2).bind fun c=>(g x q.1 c).bind fun r=>(rng (q.2+1)).bind fun w=>i7 (.inl (r,w))) (i7 (.inr q.1)))
  {p:Vec}(hp:p.length=k+1){u:Vec}(hu:V (suf x (k+1)) u):zJ body2 (p++u,0)=i7 (p++img (mul (suf x (k+1))) (lvl x k).cs t u):=by
 have h6:=h.os.1;have ok:=h.okAt (k:=k+1) (by omega);have ok0:=h.okAt (k:=k) (by omega);rw[yE hk]at ok0;obtain⟨cx,t9⟩:=zDO h.os (x.zA.length-(k+1)) (k+1) t (by omega) ht;have gE:(lvl x k).cs.length=x.zA.length-(k+1):=by rw[ok0.2.2.1,yN]
 have hA:∀i,V (suf x (k+1)) (img (mul (suf x (k+1))) ((lvl x k).cs.take i) (t.take i) u):=fun i=>
  qO (xE ok) _ _ (fun c hc=>ok0.2.2.2.1 c (by grind)) hu
 have:=zY (body:=body2) (r:=p++img (mul (suf x (k+1))) (lvl x k).cs t u) (fun i=>(p++img (mul (suf x (k+1))) ((lvl x k).cs.take i) (t.take i) u,(i:Int))) t.length (fun i hi=>by
  have hr:=t9 i (by omega);obtain⟨c,c1,c2,c3,c4⟩:=zE4 h hk (i:=i) (by omega);rw[pI];simp only
  rw[xJ hi,zN,yW hi,bs];rw[vQ (S:=V (suf x (k+1))) (fun u=>p++u) (fun u=>mul (suf x (k+1)) u c) (at0 t i) hr.1 (by grind[xE]) (fun u q hu hq=>by
   rw[uz];simp only
   rw[ic hq,zN,c1,bs,c2,bs,hg p u c hp hu c3,bs,zC (by omega) (by omega),bs,cs]) (by grind) (hA i),bs,zC (by omega) (by omega),bs,cs]
  rw[zBp _ _ _ _ (by omega) (by omega),c4]) (by
  grind)
 grind[img]
theorem zV1{p v:Vec}{a:Int}{k:Nat}(hp:p.length=k):ixO (p++a::v) (k:Int)=i7 a:=by rw[vT,J9 (by omega),hp,Kl];rfl
theorem p_set{p v:Vec}{a b:Int}{k:Nat}(hp:p.length=k):(p++a::v).set k b=p++b::v:=by simp_all
theorem zLl{x:SPr}(h:Pres x){k:Nat}(hk:k<x.zA.length)(hc:wR (suf x (k+1))){g:SPr→List Int→List Int→Option (List Int)}(hg:FTV x (k+1) g):FTG x k (b_b g):=by
 intro p v hp hv;have h6:=h.os.1;have G:=zHx h (k:=k+1) (by omega) hc;have ok:=h.okAt (k:=k+1) (by omega);have ok0:=h.okAt (k:=k) (by omega);obtain⟨p5,aO⟩:=zDO h.os (x.zA.length-k) k v (by omega) hv;rw[yE hk]at hv ok0;obtain⟨e,t,rfl⟩:∃a0 a',v=a0::a':=by cases v with|nil=>grind|cons p q=>simp
 obtain⟨⟨e1,e2⟩,ht⟩:=hv;have pO:(lvl x k).o=at0 x.zA k:=rfl;rw[pO]at e2;have cd:=(h.os.2 k hk).pos;have cx:=(zDO h.os (x.zA.length-(k+1)) (k+1) t (by omega) ht).1;have pF:=yN x (k+1);unfold b_b;have hs:yB (p++e::t) ((k+1:Nat):Int) ((p++e::t).length:Int)=i7 t:=by
  unfold yB;rw[if_pos (by grind)];have e3:(p++e::t).drop (k+1)=t:=by rw[List.drop_append,Jau (by omega),hp,show k+1-k=1 from by omega];rfl
  grind[Ja]
 have bg:f_N t=i7 t:=by grind[f_N,yT]
 rw[zC (by omega) (by omega),bs,cs,hs,bs,bg,bs];have hz:=zY (body:=zSG k t) (r:=(p++[e])++zeros t.length) (fun i=>((p++[e])++(zeros i++t.drop i),(i:Int))) t.length (fun i hi=>by
  have hl:((p++[e])++zeros i).length=k+1+i:=by grind[zZ]
  unfold zSG;simp only
  rw[xJ hi,zN,zC (by omega) (by omega),bs,zC (by omega) (by omega),bs,show(k:Int)+1+(i:Int)=((k+1+i:Nat):Int)from by omega,vT,←Jc,J9 (by omega),hl,Kl,
   Uf hi,Qm,bs,zC (by omega) (by omega),bs,cs,Ja,Ud _ _ (by omega),hl,Kl,H2,zFV]
  simp) (by
  unfold zSG;simp)
 simp only[zeros,Hk,U9,Jt,Jc,H1]at hz;rw[show((0:Nat):Int)=0 from rfl]at hz;rw[hz,bs,Ja,zV1 hp,bs,zC (by omega) (by omega),bs,bs,p_set hp,zV1 hp,bs,yW hk,bs];have eJ:J1 t.length (0:Int)=zeros (suf x (k+1)).length:=by rw[pF,cx];rfl
 rw[yE hk,yY,pO];have gz:mul (suf x (k+1)) (iter (1:Int).toNat (sig (suf x (k+1)) (lvl x k)) t) (zeros (x.zA.length-(k+1)))=sig (suf x (k+1)) (lvl x k) t:=by rw[←pF];show mul _ (sig (suf x (k+1)) (lvl x k) t) _=_;exact G.oner (zCw ok0 ht)
 rw[gz,eJ]
 by_cases heq:e+1=at0 x.zA k
 ·have t1:=(h.tl k hk).1
  have hw:=jM t1 hk;have hwl:=h.pl;have aR:(p++[(0:Int)]).length=k+1:=by simp[hp]
  rw[show(e+1==at0 x.zA k)=i9 from by grind,zN,if_pos (by omega),bs,yX [] (by omega),bs,p_set hp];have d7:p++0::zeros (suf x (k+1)).length=(p++[0])++zeros (suf x (k+1)).length:=by simp
  rw[d7,zAr t1 hk,hg _ _ _ aR G.ein hw,bs,G.onel hw];rw[zIR (body1:=zXp g x k) (body2:=zXq g x k t) h hk hg ht (fun _=>rfl) (fun _ _ _=>rfl) aR hw,bs];rw[zE3 G.toMon _ _ ok0.2.2.2.1 hw,show e+1-at0 x.zA k=0 from by omega];simp only[Jc,H1];rfl
 ·have aR:(p++[e+1]).length=k+1:=by simp[hp]
  rw[show(e+1==at0 x.zA k)=ia from by grind,zS,if_neg (by omega)];have d7:p++(e+1)::zeros (suf x (k+1)).length=(p++[e+1])++zeros (suf x (k+1)).length:=by simp
  rw[d7,zIR (body1:=zXr g x k) (body2:=zXs g x k t) h hk hg ht (fun _=>rfl) (fun _ _ _=>rfl) aR G.ein,bs];simp only[Jc,H1];rfl
theorem zAm{n i:Nat}(h:i<n):xI n i=zeros i++1::zeros (n-(i+1)):=by
 have:zeros n=zeros i++0::zeros (n-(i+1)):=by
  simp only[zeros];rw[←Jp,Jk]
  grind
 grind[xI,zD1]
theorem zE6(n:Nat):(wK n).length=n:=by simp[wK]
theorem zHy{n i:Nat}(h:i<n):(wK n).getD i []=xI n i:=by simp[wK,J2,h]
theorem zRx{x:SPr}(h:Pres x){k:Nat}(hk:k≤x.zA.length)(hc:wR (suf x k)){g:SPr→List Int→Int→Option (List Int)}(hg:∀j,k≤j→j<x.zA.length→FTG x j g):FTV x k (b_c g):=by
 intro p v u hp hv hu;have h6:=h.os.1;have G:=zHx h hk hc;have ok:=h.okAt hk;obtain⟨eT,df⟩:=zDO h.os (x.zA.length-k) k u (by omega) hu;have pF:=yN x k;have hV1:∀j,j≤x.zA.length→j<x.zA.length→V (suf x j) (1::zeros (x.zA.length-(j+1))):=fun j hj b7=>by rw[yE b7];have:=(h.os.2 j b7).pos;refine⟨⟨by omega,by show 1<at0 x.zA j;omega⟩,?_⟩;rw[←yN];exact wO (h.okAt (by omega))
 have hUn:∀i,i<x.zA.length-k→V (suf x k) (xI (x.zA.length-k) i):=by grind[zCv]
 have hUs:∀c∈wK (x.zA.length-k),V (suf x k) c:=fun c hc=>by
  simp only[wK,Jm,Kq]at hc
  grind
 have hA:∀i,V (suf x k) (img (mul (suf x k)) ((wK (x.zA.length-k)).take i) (u.take i) v):=fun i=>
  qO (xE ok) _ _ (by grind) hv
 have uf:∀i w,i<x.zA.length-k→V (suf x k) w→g x (p++w) ((k+i:Nat):Int)=i7 (p++mul (suf x k) w (xI (x.zA.length-k) i)):=fun i w hi hw=>by obtain⟨q,w',h1,h2,h3,h4⟩:=zGo i k w (by omega) hw;have h5:=hg (k+i) (by omega) (by omega) (p++q) w' (by grind) h3;rw[Jc,←h1]at h5;rw[h5,zAm hi,h1,show x.zA.length-k-(i+1)=x.zA.length-(k+i+1)from by omega,h4 w' _ h3 (hV1 (k+i) (by omega) (by omega)),Jc]
 unfold b_c;have t7:(zeros k++u).length=x.zA.length:=by grind[zZ]
 have:=zY (body:=zSI g x (zeros k++u)) (r:=p++mul (suf x k) v u) (fun j=>(p++img (mul (suf x k)) ((wK (x.zA.length-k)).take (j-k)) (u.take (j-k)) v,(j:Int))) x.zA.length (fun j hj=>by
  unfold zSI;simp only
  rw[t7,xJ hj,zN];rcases Jj j k with hjk|hjk
  ·have e0:ixO (zeros k++u) (j:Int)=i7 0:=by
    rw[vT,Ju (by grind)]
    grind[zeros]
   rw[e0,bs,show j-k=0 from by omega,show j+1-k=0 from by omega];rw[xT];unfold zSH;simp only
   rw[show decide ((0:Int)<0)=ia from rfl,zS];simp only
   rw[bs,zC (by omega) (by omega),bs,cs]
  ·obtain⟨i,rfl⟩:∃i,j=k+i:=⟨j-k,by omega⟩
   have hi:i<x.zA.length-k:=by omega
   have hr:=df i hi;rw[zLk (by omega),bs,show k+i-k=i from by omega,show k+i+1-k=i+1 from by omega];rw[vQ (S:=V (suf x k)) (fun w=>p++w) (fun w=>mul (suf x k) w (xI (x.zA.length-k) i)) (at0 u i) hr.1 (by grind[xE]) (fun w q hw hq=>by
    unfold zSH;simp only
    rw[ic hq,zN,uf i w hi hw,bs,zC (by omega) (by omega),bs,cs]) (fun w hw=>by
    unfold zSH;simp) (hA i),bs,zC (by omega) (by omega),bs,cs]
   rw[zBp _ _ _ _ (by grind[zE6]) (by omega),zHy hi]) (by
  unfold zSI;simp only
  rw[t7,uH,zS,Jr (by grind[zE6]),Jr (by omega),zE3 G.toMon _ _ hUs hv];have hn:=normal (suf x k) ok (fun Q hQ=>(zCx Q (zIQ hQ ok) (zC1 hQ hc)).toMon) u hu
  grind)
 simp only[Jc9,K8,img]at this
 grind
theorem zFx{x:SPr}(h:Pres x):∀(d k:Nat),k+d=x.zA.length→wR (suf x k)→(∀m,2*d+1≤m→FTV x k (zPP m))
 |d,k,hk,hc=>fun m hm=>by
  obtain⟨m,rfl⟩:∃m',m=m'+1:=⟨m-1,by omega⟩;refine zRx h (by omega) hc fun j hj bH=>?_
  obtain⟨m,rfl⟩:∃m',m=m'+1:=⟨m-1,by omega⟩;have aZ:wR (suf x (j+1)):=by
   have:=zE5 hc (j+1-k)
   grind
  exact zLl h bH aZ (zFx h (x.zA.length-(j+1)) (j+1) (by omega) aZ m (by omega))
 termination_by d=>d
 decreasing_by omega
theorem zUd{x:SPr}(h:Pres x){k:Nat}(hk:k≤x.zA.length)(hc:wR (suf x k)):FTV x k f_c:=fun p v u hp hv hu=>
 zBm (2*(x.zA.length-k)+1) fun m hm=>zFx h (x.zA.length-k) k (by omega) hc m hm p v u hp hv hu
theorem zUe{x:SPr}(h:Pres x){k:Nat}(hk:k<x.zA.length)(hc:wR (suf x (k+1))):FTG x k f_b:=fun p v hp hv=>
 zBm (2*(x.zA.length-k)) fun m hm=>by obtain⟨m,rfl⟩:∃m',m=m'+1:=⟨m-1,by omega⟩;exact zLl h hk hc (zFx h (x.zA.length-(k+1)) (k+1) (by omega) hc m (by omega)) p v hp hv
end Go.Pl

namespace Go.Pl
open Go Go.Ab Go.Wk Go.Pc
abbrev fv(k:Nat)(v:Vec):Vec:=zeros k++v
section
variable {x:SPr} (h:Pres x) {k:Nat} (hk:k≤x.zA.length) (hc:wR (suf x k))
 include h hk
theorem wY{v:Vec}(hv:V (suf x k) v):v.length=x.zA.length-k:=(zDO h.os (x.zA.length-k) k v (by omega) hv).1
theorem zC2{v:Vec}(hv:V (suf x k) v):(fv k v).length=x.zA.length:=by rw[J6,zZ,wY h hk hv];omega
theorem zOw:J1 x.zA.length (0:Int)=fv k (zeros (suf x k).length):=by
 have _:=h;rw[yN];simp only[fv,zeros,Jk];congr 1;omega
 include hc
theorem zMP{i:Nat}(hi:i<x.zA.length-k):V (suf x k) (xI (x.zA.length-k) i):=by
 have _:=hc;have:=yN x k;rw[←this]at hi ⊢
 exact zCv (h.okAt hk) hi
theorem zLm{p:Vec}(hp:p.length=k){i:Nat}(hi:i<x.zA.length-k){w:Vec}(hw:V (suf x k) w):f_b x (p++w) ((k+i:Nat):Int)=i7 (p++mul (suf x k) w (xI (x.zA.length-k) i)):=by
 obtain⟨q,w',h1,h2,h3,h4⟩:=zGo i k w (by omega) hw;have aZ:wR (suf x (k+i+1)):=zE5 hc (i+1);have h5:=zUe h (k:=k+i) (by omega) aZ (p++q) w' (by simp[hp,h2]) h3;have h7:V (suf x (k+i)) (1::zeros (x.zA.length-(k+i+1))):=by
  have b7:k+i<x.zA.length:=by omega
  rw[yE b7];have:=(h.os.2 (k+i) b7).pos;refine⟨⟨by omega,by show 1<at0 x.zA (k+i);omega⟩,?_⟩;rw[←yN];exact wO (h.okAt (by omega))
 rw[Jc,←h1]at h5;rw[h5,zAm hi,h1,show x.zA.length-k-(i+1)=x.zA.length-(k+i+1)from by omega,h4 w' _ h3 h7,Jc]
theorem zHz{a b:Vec}(ha:V (suf x k) a)(hb:V (suf x k) b):f_c x (fv k a) (fv k b)=i7 (fv k (mul (suf x k) a b)):=
 zUd h hk hc (zeros k) a b (zZ k) ha hb
theorem zLn{a:Vec}(ha:V (suf x k) a):f_N (fv k a)=i7 (fv k a):=by have _:=hc;have:=zC2 h hk ha;have h6:=h.os.1;unfold f_N;rw[yT (by simp only[Jx];omega),bs,Jt]
theorem zD2{a b:Vec}(ha:V (suf x k) a)(hb:V (suf x k) b):zSN x (fv k a) (fv k b)=i7 (fv k (mul (suf x k) a b)):=by unfold zSN;rw[zLn h hk hc ha,bs,zHz h hk hc ha hb,bs]
theorem zMQ{c:Vec}(cY:V (suf x k) c){e:Int}(e0:0≤e)(e1:e≤1000):zUE x (fv k c) e=i7 (fv k (pw (mul (suf x k)) (zeros (suf x k).length) c e.toNat)):=by
 have h6:=h.os.1;have ok:=h.okAt hk;unfold zUE;rw[zC2 h hk cY,xP (by omega),bs,zOw h hk];rw[vQ (S:=V (suf x k)) (body:=zMa x (fv k c) e) (fun u=>fv k u) (fun u=>mul (suf x k) u c) e e0 (fun u hu=>xE ok hu cY) (fun u i hu hi=>by
  unfold zMa;simp only
  rw[ic hi,zN,zHz h hk hc hu cY,bs,zC (by omega) (by omega),bs,cs]) (fun u hu=>by
  unfold zMa;simp only
  rw[ib (by omega),zS]) (wO ok),bs]
 rfl
theorem zLo{v:Vec}(hv:V (suf x k) v):∃w,V (suf x k) w∧mul (suf x k) v w=zeros (suf x k).length∧f_I x (fv k v)=i7 (fv k w):=by
 have h6:=h.os.1;have ok:=h.okAt hk;have G:=zHx h hk hc;have p5:=zC2 h hk hv;have pF:=yN x k;unfold f_I;rw[zLn h hk hc hv,bs,p5,xP (by omega),bs,zOw h hk]
 let I:Nat→(List Int×List Int×Int)→Prop:=fun j s=> ∃A w,s=(fv k A,fv k w,(j:Int))∧V (suf x k) A∧V (suf x k) w∧mul (suf x k) v w=A∧ ∃A',A=zeros (j-k)++A'
 have key:=tC (body:=zSM x (fv k v)) (Q:=fun r=> ∃w,V (suf x k) w∧mul (suf x k) v w=zeros (suf x k).length∧r=fv k w) I x.zA.length (fun j s hj hI=>by
  obtain⟨A,w,rfl,hA,hw,hm,A',hA'⟩:=hI;left;unfold zSM;simp only
  rw[p5,xJ hj,zN];rcases Jj j k with hjk|hjk
  ·have e0:ixO (fv k A) (j:Int)=i7 0:=by
    rw[vT,Ju (by rw[zZ];exact hjk)];simp[zeros,hjk]
   rw[xT];unfold zPQ;simp only
   rw[e0,bs,show((0:Int) != 0)=ia from rfl,zS];simp only
   rw[bs,zC (by omega) (by omega),bs,cs];exact⟨_,rfl,A,w,rfl,hA,hw,hm,A,by rw[show j+1-k=0 from by omega];rfl⟩
  ·obtain⟨i,rfl⟩:∃i,j=k+i:=⟨j-k,by omega⟩
   have hi:i<x.zA.length-k:=by omega
   rw[show k+i-k=i from by omega]at hA';have fK:=wY h hk hA;obtain⟨a0,A',rfl⟩:∃p q,A'=p::q:=by
    cases A' with
    |nil=>rw[hA',J6,zZ,Jx]at fK;omega
    |cons p q=>exact⟨p,q,rfl⟩
   have cd:=(h.os.2 (k+i) hj).pos;have inner:=tC (body:=zPQ x (fv k A,fv k w,((k+i:Nat):Int))) (s:=(fv k A,fv k w))
    (Q:=fun r=> ∃B u,r=(fv k B,fv k u)∧V (suf x k) B∧V (suf x k) u∧mul (suf x k) v u=B∧ ∃B',B=zeros (i+1)++B')
    (fun q s=> ∃B u b B',s=(fv k B,fv k u)∧V (suf x k) B∧V (suf x k) u∧mul (suf x k) v u=B∧B=zeros i++b::B'∧(b=0∨b=a0+q)) 10 (fun q s hq hs=>by
     obtain⟨B,u,b,B',rfl,hB,hu,mW,cZ,hb⟩:=hs;have hz:ixO (fv k B) ((k+i:Nat):Int)=i7 b:=by rw[fv,zLk (by rw[wY h hk hB];exact hi),cZ,at0,J2,J9 (by rw[zZ];omega),zZ,Kl];rfl
     unfold zPQ;simp only
     rw[hz,bs]
     by_cases aH:b=0
     ·subst aH
      right;rw[show((0:Int) != 0)=ia from rfl,zS];exact⟨_,rfl,B,u,rfl,hB,hu,mW,B',by rw[cZ,zBC]⟩
     ·left
      have hbq:b=a0+q:=by rcases hb with hb|hb;exact absurd hb aH;exact hb
      rw[show(b != 0)=i9 from by simpa using aH,zN,zLm h hk hc (zZ k) hi hB,bs,zLm h hk hc (zZ k) hi hu,bs];have hU:=zMP h hk hc hi;obtain⟨q',v',h1,h2,h3,h4⟩:=zGo i k B (by omega) hB;have hqv:q'=zeros i∧v'=b::B':=by rw[cZ]at h1;have:=List.append_inj h1 (by rw[zZ,h2]);exact⟨this.1.symm,this.2.symm⟩
      obtain⟨rfl,rfl⟩:=hqv;have h7:V (suf x (k+i)) (1::zeros (x.zA.length-(k+i+1))):=by rw[yE hj];refine⟨⟨by omega,by show 1<at0 x.zA (k+i);omega⟩,?_⟩;rw[←yN];exact wO (h.okAt (by omega))
      have h8:=h4 (b::B') _ h3 h7;rw[show x.zA.length-(k+i+1)=x.zA.length-k-(i+1)from by omega,←zAm hi,←h1,yE hj,yY]at h8;refine⟨_,rfl,mul (suf x k) B (xI (x.zA.length-k) i),mul (suf x k) u (xI (x.zA.length-k) i),?_⟩;have pO:(lvl x (k+i)).o=at0 x.zA (k+i):=rfl;rw[pO]at h8
      by_cases hge:b+1≥at0 x.zA (k+i)
      ·rw[if_pos hge]at h8
       refine⟨_,_,rfl,xE ok hB hU,xE ok hu hU,?_,h8,?_⟩
       ·rw[←G.assoc hv hu hU,mW]
       ·left
        rw[yE hj]at h3;have:=h3.1.2;rw[pO]at this;omega
      ·rw[if_neg hge]at h8
       refine⟨_,_,rfl,xE ok hB hU,xE ok hu hU,?_,h8,?_⟩
       ·rw[←G.assoc hv hu hU,mW]
       ·right;omega) (fun s hs=>by
     obtain⟨B,u,b,B',rfl,hB,hu,mW,cZ,hb⟩:=hs;have hz:ixO (fv k B) ((k+i:Nat):Int)=i7 b:=by rw[fv,zLk (by rw[wY h hk hB];exact hi),cZ,at0,J2,J9 (by rw[zZ];omega),zZ,Kl];rfl
     have hbr:=(zDO h.os (x.zA.length-k) k B (by omega) hB).2 i hi;have ha:=(zDO h.os (x.zA.length-k) k A (by omega) hA).2 i hi;have e1:at0 B i=b:=by rw[cZ,at0,J2,J9 (by rw[zZ];omega),zZ,Kl];rfl
     have e2:at0 A i=a0:=by rw[hA',at0,J2,J9 (by rw[zZ];omega),zZ,Kl];rfl
     have aH:b=0:=by omega
     subst aH;unfold zPQ;simp only
     rw[hz,bs,show((0:Int) != 0)=ia from rfl,zS];exact⟨_,rfl,B,u,rfl,hB,hu,mW,B',by rw[cZ,zBC]⟩) ⟨A,w,a0,A',rfl,hA,hw,hm,hA',.inr (by omega)⟩
   obtain⟨r,r1,B,u,rfl,hB,hu,mW,B',cZ⟩:=inner;rw[r1,bs,zC (by omega) (by omega),bs,cs];exact⟨_,rfl,B,u,rfl,hB,hu,mW,B',by rw[cZ,show k+i+1-k=i+1 from by omega]⟩) (fun s hI=>by
  obtain⟨A,w,rfl,hA,hw,hm,A',hA'⟩:=hI;unfold zSM;simp only
  rw[p5,uH,zS];refine⟨_,rfl,w,hw,?_,rfl⟩;have fK:=wY h hk hA;rw[hA',J6,zZ]at fK;rw[hm,hA',Ll (l:=A') (by omega),Je,pF]) (s:=(fv k v,fv k (zeros (suf x k).length),0))
  ⟨v,_,rfl,hv,wO ok,G.oner hv,v,by rw[Jc9];rfl⟩
 obtain⟨r,r1,w,hw,hm,rfl⟩:=key;rw[r1,bs];exact⟨w,hw,hm,rfl⟩
theorem zC3{a b:Vec}(ha:V (suf x k) a)(hb:V (suf x k) b):∃c,V (suf x k) c∧mul (suf x k) b c=mul (suf x k) a b∧zSO x (fv k a) (fv k b)=i7 (fv k c):=by
 have ok:=h.okAt hk;have G:=zHx h hk hc;obtain⟨w,hw,hm,h1⟩:=zLo h hk hc hb;have bK:=xE ok ha hb;refine⟨mul (suf x k) w (mul (suf x k) a b),xE ok hw bK,?_,?_⟩
 ·rw[←G.assoc hb hw bK,hm,G.onel bK]
 ·unfold zSO
  rw[h1,bs,zD2 h hk hc ha hb,bs,zD2 h hk hc hw bK,bs]
end
theorem zDP{a b:List Int}(h:a.length≤1000000):f_R a b=i7 (a==b):=
 zIM (t:=fun u v=>i7 (u==v)) (body:=zXt a b) rfl (fun _=>rfl) (by omega) fun _ _ _ _=>rfl
theorem zPr{a b:List Int}(h:a.length≤1000000):f_W a b=i7 (a==b):=zDP h
end Go.Pl

namespace Go.Pl
open Go Go.Ab Go.Wk Go.Pc
theorem zLp{ρ:Type}{body:Int→Option (Int⊕(Unit⊕ρ))}(n i0:Nat)(hn:i0≤n)(P:Nat→Prop)(B:ρ→Prop)
  (h:∀i,i0≤i→i<n→(∀j,i0≤j→j<i→P j)→(body (i:Int)=i7 (.inl ((i+1:Nat):Int))∧P i)∨(∃r,body (i:Int)=i7 (.inr (.inr r))∧B r∧ ¬P i))
  (he:body (n:Int)=i7 (.inr (.inl ()))):
  (zJ body (i0:Int)=i7 (.inl ())∧ ∀j,i0≤j→j<n→P j)∨ ∃r i,i0≤i∧i<n∧zJ body (i0:Int)=i7 (.inr r)∧B r∧ ¬P i:=by
 have key:∀k i,i0≤i→i+k=n→(∀j,i0≤j→j<i→P j)→(zJ body (i:Int)=i7 (.inl ())∧ ∀j,i0≤j→j<n→P j)∨ ∃r q,i0≤q∧q<n∧zJ body (i:Int)=i7 (.inr r)∧B r∧ ¬P q:=by
  intro k
  induction k with
  |zero=>
   intro i hi hk hp;obtain rfl:i=n:=by omega
   grind[xT]
  |succ k ih=>
   intro i hi hk hp;rcases h i hi (by omega) hp with⟨h1,h2⟩|⟨r,h1,h2,h3⟩
   ·have:=ih (i+1) (by omega) (by omega) (by grind)
    rw[xT,h1];exact this
   ·exact .inr ⟨r,i,hi,by omega,by rw[xT,h1],h2,h3⟩
 exact key (n-i0) i0 (Ji _) (by omega) fun j a b=>by omega
theorem zH0{σ ρ:Type}{body:σ→Option (σ⊕ρ)}{Q:ρ→Prop}(I:σ→Prop)(m:σ→Nat)
  (h:∀s,I s→(∃s',body s=i7 (.inl s')∧I s'∧m s'<m s)∨ ∃r,body s=i7 (.inr r)∧Q r):∀(k:Nat)(s:σ),m s≤k→I s→ ∃r,zJ body s=i7 r∧Q r
 |k,s,hk,hs=>by
  rcases h s hs with⟨s',h1,h2,h3⟩|⟨r,h1,h2⟩
  ·cases k with
   |zero=>omega
   |succ k=>
    obtain⟨r,h4,h5⟩:=zH0 I m h k s' (by omega) h2
    grind[xT]
  grind[xT]
theorem zWC{k:Nat}{a b:Vec}:(fv k a==fv k b)=i9↔a=b:=by simp
theorem zC4{x:SPr}{v:List Int}{i k:Nat}(h:Exp x.zA v i)(hk:k≤i+1)(hn:k≤x.zA.length):v=fv k (v.drop k)∧V (suf x k) (v.drop k):=by
 have h1:=h.1.1;constructor
 ·apply Kv
  intro j;rw[fv,Kk];simp only[zeros,Jf,Ke,He];split
  ·rename_i hj
   have h2:=h.2 j (by omega)
   grind
  grind
 ·refine zWB (x.zA.length-k) k _ (by omega) (by grind) fun j hj=>?_
  have:=h.1.2 (k+j) (by omega)
  grind
structure LC (x:SPr) (k:Nat):Prop where
 c1:∀j,k+1≤j→j<x.zA.length→pw (mul (suf x (k+1))) (zeros (suf x (k+1)).length) ((lvl x k).cs.getD (j-(k+1)) []) (at0 x.zA j).toNat=sig (suf x (k+1)) (lvl x k) ((x.zT.getD j []).drop (k+1))
 c2:∀i,k+1≤i→i<x.zA.length→ ∀j,i+1≤j→j<x.zA.length→
  mul (suf x (k+1)) ((lvl x k).cs.getD (j-(k+1)) []) ((lvl x k).cs.getD (i-(k+1)) [])=mul (suf x (k+1)) ((lvl x k).cs.getD (i-(k+1)) []) (sig (suf x (k+1)) (lvl x k) (((x.zF.getD i []).getD (j-(i+1)) []).drop (k+1)))
 c3:sig (suf x (k+1)) (lvl x k) (lvl x k).w=(lvl x k).w
 c4:∀j,k+1≤j→j<x.zA.length→mul (suf x (k+1)) (lvl x k).w (iter (lvl x k).o.toNat (sig (suf x (k+1)) (lvl x k)) (xI (x.zA.length-(k+1)) (j-(k+1))))=mul (suf x (k+1)) (xI (x.zA.length-(k+1)) (j-(k+1))) (lvl x k).w
section
variable {x:SPr} (h:Pres x) {k:Nat} (hk:k<x.zA.length) (hc:wR (suf x (k+1)))
 include h hk
theorem kK{j:Nat}(h1:k+1≤j)(h2:j<x.zA.length):ixO x.zF (k:Int)=i7 (x.zF.getD k [])∧ixO (x.zF.getD k []) ((j:Int)-(k:Int)-1)=i7 (fv (k+1) ((lvl x k).cs.getD (j-(k+1)) []))∧V (suf x (k+1)) ((lvl x k).cs.getD (j-(k+1)) []):=by
 obtain⟨c,c1,c2,c3,c4⟩:=zE4 h hk (i:=j-(k+1)) (by omega)
 grind
theorem zRy{j:Nat}(h1:k+1≤j)(h2:j<x.zA.length):ixO x.zT (j:Int)=i7 (fv (k+1) ((x.zT.getD j []).drop (k+1)))∧V (suf x (k+1)) ((x.zT.getD j []).drop (k+1)):=by
 have t1:=(h.tl j h2).1;have hl:=h.pl
 grind[zC4,yX]
theorem zRz{i j:Nat}(h1:k+1≤i)(h2:i+1≤j)(h3:j<x.zA.length):ixO x.zF (i:Int)=i7 (x.zF.getD i [])∧ixO (x.zF.getD i []) ((j:Int)-(i:Int)-1)=i7 (fv (k+1) (((x.zF.getD i []).getD (j-(i+1)) []).drop (k+1)))∧V (suf x (k+1)) (((x.zF.getD i []).getD (j-(i+1)) []).drop (k+1)):=by
 obtain⟨_,t2,t3⟩:=h.tl i (by omega)
 grind[zC4,yX]
theorem zWD:ixO x.zT (k:Int)=i7 (fv (k+1) (lvl x k).w)∧V (suf x (k+1)) (lvl x k).w:=by have t1:=(h.tl k hk).1;have hl:=h.pl;obtain⟨e1,e2⟩:=zC4 (k:=k+1) t1 (by omega) (by omega);exact⟨by rw[yX [] (by omega)];exact congrArg i7 e1,e2⟩
theorem zV2{v:Vec}(hv:V (suf x (k+1)) v):V (suf x (k+1)) (sig (suf x (k+1)) (lvl x k) v):=by
 have ok0:=h.okAt (k:=k) (by omega)
 grind[yE,zCw]
theorem zIS{j:Nat}(h1:k+1≤j)(h2:j<x.zA.length):zMb (x.zA.length:Int) (j:Int)=i7 (fv (k+1) (xI (x.zA.length-(k+1)) (j-(k+1)))):=by
 have h6:=h.os.1;unfold zMb;rw[xP (by omega),bs,vT,Ke,if_pos h2,bs,Ja]
 congr 1
 rw[fv,zAm (by omega),←Jc];have e1:zeros (k+1)++zeros (j-(k+1))=zeros j:=by grind[zeros,Jk]
 have e2:J1 x.zA.length (0:Int)=zeros j++0::zeros (x.zA.length-(j+1)):=by simp only[zeros];rw[←Jp,Jk];grind
 grind[zD1]
theorem zPs{j:Nat}(h1:k+1≤j)(h2:j<x.zA.length):zXm (x.zA.length:Int) (j:Int)=i7 (fv (k+1) (xI (x.zA.length-(k+1)) (j-(k+1)))):=zIS h hk h1 h2
 include hc
theorem zAn{v:Vec}(hv:V (suf x (k+1)) v):f_E x k (fv (k+1) v)=i7 (fv (k+1) (sig (suf x (k+1)) (lvl x k) v)):=by
 have h6:=h.os.1;have ok:=h.okAt (k:=k+1) (by omega);have ok0:=h.okAt (k:=k) (by omega);rw[yE hk]at ok0;obtain⟨p5,aO⟩:=zDO h.os (x.zA.length-(k+1)) (k+1) v (by omega) hv;have gE:(lvl x k).cs.length=x.zA.length-(k+1):=by rw[ok0.2.2.1,yN]
 have t2:=(h.tl k hk).2.1;have ut:=h.cl;have hA:∀i,V (suf x (k+1)) (img (mul (suf x (k+1))) ((lvl x k).cs.take i) (v.take i) (zeros (suf x (k+1)).length)):=fun i=>
  qO (xE ok) _ _ (fun c hc=>ok0.2.2.2.1 c (by grind)) (wO ok)
 unfold f_E;rw[zC2 h (by omega) hv,xP (by omega),bs,yX [] (by omega),bs,zOw h (k:=k+1) (by omega)];have:=zY (body:=zSL x k (fv (k+1) v) (x.zF.getD k [])) (r:=fv (k+1) (sig (suf x (k+1)) (lvl x k) v))
  (fun i=>(fv (k+1) (img (mul (suf x (k+1))) ((lvl x k).cs.take i) (v.take i) (zeros (suf x (k+1)).length)),(i:Int))) (x.zF.getD k []).length (fun i hi=>by
  have hr:=aO i (by omega);obtain⟨c,c1,c2,c3,c4⟩:=zE4 h hk (i:=i) (by omega);unfold zSL;simp only
  rw[xJ hi,zN,c2,bs,zC (by omega) (by omega),bs,zC (by omega) (by omega),bs,show(k:Int)+1+(i:Int)=((k+1+i:Nat):Int)from by omega,fv,zLk (by omega),bs];rw[vQ (S:=V (suf x (k+1))) (body:=zSK x (zeros (k+1)++c) (at0 v i)) (fun u=>fv (k+1) u) (fun u=>mul (suf x (k+1)) u c) (at0 v i) hr.1 (by grind[xE]) (fun u q hu hq=>by
   unfold zSK;simp only
   rw[ic hq,zN,zHz h (by omega) hc hu c3,bs,zC (by omega) (by omega),bs,cs]) (fun u hu=>by
   unfold zSK;simp) (hA i),bs,zC (by omega) (by omega),bs,cs]
  rw[zBp _ _ _ _ (by omega) (by omega),c4]) (by
  unfold zSL;simp only
  rw[uH,zS,Jr (by omega),Jr (by omega)];rfl)
 simp only[K8,img]at this
 grind
theorem zC5{a b:Vec}(ha:V (suf x (k+1)) a):IsB (f_R (fv (k+1) a) (fv (k+1) b)) (a=b):=by
 have _:=hc;have h6:=h.os.1
 grind[zDP,zC2,IsB.of_bool,zWC]
theorem zLq{c:Vec}(cY:V (suf x (k+1)) c){e:Int}(e0:0≤e)(e1:e≤1000):zU7 x ((k+1:Nat):Int) (fv (k+1) c) e=i7 (fv (k+1) (pw (mul (suf x (k+1))) (zeros (suf x (k+1)).length) c e.toNat)):=by
 have h6:=h.os.1;have ok:=h.okAt (k:=k+1) (by omega);have G:=zHx h (k:=k+1) (by omega) hc;have hA:=zOv h (k:=k+1) (by omega);have pwV:∀a,V (suf x (k+1)) (pw (mul (suf x (k+1))) (zeros (suf x (k+1)).length) c a):=fun a=>tI G.toMon cY a
 unfold zU7;rw[xP (by omega),bs,zOw h (k:=k+1) (by omega)];obtain⟨r,r1,r2⟩:=zH0 (body:=zOU x ((k+1:Nat):Int)) (Q:=fun r=>r=fv (k+1) (pw (mul (suf x (k+1))) (zeros (suf x (k+1)).length) c e.toNat))
  (fun s=> ∃(m a q:Nat),s=((m:Int),fv (k+1) (pw (mul (suf x (k+1))) (zeros (suf x (k+1)).length) c a),fv (k+1) (pw (mul (suf x (k+1))) (zeros (suf x (k+1)).length) c q))∧a+q*m=e.toNat∧m≤1000) (fun s=>s.1.toNat) (fun s ⟨m,a,q,hs,he,hm⟩=>by
   subst hs;unfold zOU;simp only
   by_cases hm0:m=0
   ·grind
   ·left
    have hr:uU (m:Int) 2=i7 ((m%2:Nat):Int):=by rfl
    have hq:tH (m:Int) 2=i7 ((m/2:Nat):Int):=by
     unfold tH;rw[if_neg (by decide),Int.tdiv_eq_ediv_of_nonneg (by omega)]
     grind[zC]
    have pW:=U7 m 2;have tx:mul (suf x (k+1)) (pw (mul (suf x (k+1))) (zeros (suf x (k+1)).length) c q) (pw (mul (suf x (k+1))) (zeros (suf x (k+1)).length) c q)=pw (mul (suf x (k+1))) (zeros (suf x (k+1)).length) c (q+q):=(zHm G.toMon cY q q).symm;rw[ic (by omega),zN,hr,bs];rcases Nat.mod_two_eq_zero_or_one m with h2|h2
    ·rw[h2,show((((0:Nat):Int))==1)=ia from rfl,zS,hA _ _ (pwV q) (pwV q),bs,hq,bs,tx]
     refine⟨_,rfl,⟨m/2,a,q+q,rfl,?_,by omega⟩,by omega⟩
     grind
    ·rw[h2,show((((1:Nat):Int))==1)=i9 from rfl,zN,hA _ _ (pwV a) (pwV q),bs,hA _ _ (pwV q) (pwV q),bs,hq,bs,tx,←zHm G.toMon cY a q]
     refine⟨_,rfl,⟨m/2,a+q,q+q,rfl,?_,by omega⟩,by omega⟩
     grind) 1000000 (e,fv (k+1) (zeros (suf x (k+1)).length),fv (k+1) c) (by omega) ⟨e.toNat,0,1,by rw[zRo G.toMon cY,show((e.toNat:Nat):Int)=e from by omega];rfl,by omega,by omega⟩
 grind
end
end Go.Pl

namespace Go.Pl
open Go Go.Ab Go.Wk Go.Pc
def zYP(o:Option xH)(P:Prop):Prop:=(o=i7 (xH.mk 0 0 0 0)∧P)∨ ∃r,o=i7 r∧r.Kind≠0∧ ¬P
theorem kb{a b c d:Int}(h:a≠0):(xH.mk a b c d).Kind≠0:=h
abbrev KB(r:xH):Prop:=r.Kind≠0
theorem zBq{o:Option Bool}{P:Prop}{bad:xH}{i:Nat}{g:Option (Int⊕(Unit⊕xH))}(h:IsB o P)(hi:i<9223372036854775807)(hbad:bad.Kind≠0)
  (hg:g=o.bind fun r=>cond (!r) (i7 (.inr (.inr bad))) ((rng ((i:Int)+1)).bind fun v=>i7 (.inl v))):(g=i7 (.inl ((i+1:Nat):Int))∧P)∨(∃r,g=i7 (.inr (.inr r))∧KB r∧ ¬P):=by
 rcases tL h hi hg with h|⟨h1,h2⟩
 all_goals grind
section
variable {x:SPr} (h:Pres x) {k:Nat} (hk:k<x.zA.length) (hc:wR (suf x (k+1)))
 include h hk hc
theorem zMR:zYP (f_n x k) (LC x k):=by
 have h6:=h.os.1;have ok:=h.okAt (k:=k+1) (by omega);have G:=zHx h (k:=k+1) (by omega) hc;obtain⟨w1,w2⟩:=zWD h hk;have cU:∀v,V (suf x (k+1)) v→V (suf x (k+1)) (sig (suf x (k+1)) (lvl x k) v):=by grind[zV2]
 unfold f_n;rw[zC (by omega) (by omega),bs,cs];rcases zLp (body:=zSP x k) x.zA.length (k+1) (by omega) (fun j=>pw (mul (suf x (k+1))) (zeros (suf x (k+1)).length) ((lvl x k).cs.getD (j-(k+1)) []) (at0 x.zA j).toNat=sig (suf x (k+1)) (lvl x k) ((x.zT.getD j []).drop (k+1))) KB (fun j h1 h2 _=>by
   obtain⟨c1,c2,c3⟩:=kK h hk h1 h2;obtain⟨p1,p2⟩:=zRy h hk h1 h2;have cd:=(h.os.2 j h2).pos;refine zBq (zC5 h hk hc (tI G.toMon c3 (at0 x.zA j).toNat)) (by omega) (bad:=xH.mk 1 k j 0) (kb (by decide)) ?_;unfold zSP;rw[xJ h2,zN,c1,bs,zC (by omega) (by omega),bs,zC (by omega) (by omega),bs,c2,bs,yW h2,bs,zMQ h (by omega) hc c3 (by omega) (by omega),bs,p1,bs,zAn h hk hc p2,bs]) (by
   unfold zSP;simp)with⟨g1,g2⟩|⟨r,j,j1,j2,g1,g2,g3⟩
 rotate_left
 ·rw[g1,bs]
  exact .inr ⟨r,rfl,g2,fun q=>g3 (q.c1 j j1 j2)⟩
 rw[g1,bs];simp only
 rw[bs];rcases zLp (body:=zSR x k) x.zA.length (k+1) (by omega) (fun i=> ∀j,i+1≤j→j<x.zA.length→
   mul (suf x (k+1)) ((lvl x k).cs.getD (j-(k+1)) []) ((lvl x k).cs.getD (i-(k+1)) [])=mul (suf x (k+1)) ((lvl x k).cs.getD (i-(k+1)) []) (sig (suf x (k+1)) (lvl x k) (((x.zF.getD i []).getD (j-(i+1)) []).drop (k+1)))) KB (fun i h1 h2 _=>by
   obtain⟨c1,c2,c3⟩:=kK h hk h1 h2;unfold zSR;rw[xJ h2,zN,zC (by omega) (by omega),bs,cs];rcases zLp (body:=zSQ x k i) x.zA.length (i+1) (by omega) (fun j=>mul (suf x (k+1)) ((lvl x k).cs.getD (j-(k+1)) []) ((lvl x k).cs.getD (i-(k+1)) [])=mul (suf x (k+1)) ((lvl x k).cs.getD (i-(k+1)) []) (sig (suf x (k+1)) (lvl x k) (((x.zF.getD i []).getD (j-(i+1)) []).drop (k+1)))) KB (fun j h3 h4 _=>by
     obtain⟨d1,d2,d3⟩:=kK h hk (j:=j) (by omega) h4;obtain⟨e1,e2,e3⟩:=zRz h hk h1 h3 h4;obtain⟨q,q1,q2,q3⟩:=zC3 h (by omega) hc d3 c3;refine zBq ((zC5 h hk hc (b:=sig (suf x (k+1)) (lvl x k) (((x.zF.getD i []).getD (j-(i+1)) []).drop (k+1))) q1).iff (Q:=mul (suf x (k+1)) ((lvl x k).cs.getD (j-(k+1)) []) ((lvl x k).cs.getD (i-(k+1)) [])=mul (suf x (k+1)) ((lvl x k).cs.getD (i-(k+1)) []) (sig (suf x (k+1)) (lvl x k) (((x.zF.getD i []).getD (j-(i+1)) []).drop (k+1)))) ?_) (by omega) (bad:=xH.mk 2 k i j) (kb (by decide)) ?_
     ·exact⟨by grind,fun e=>G.cancel_l c3 q1 (cU _ e3) (by rw[q2,e])⟩
     ·unfold zSQ
      rw[xJ h4,zN,d1,bs,zC (by omega) (by omega),bs,zC (by omega) (by omega),bs,d2,bs,bs,zC (by omega) (by omega),bs,zC (by omega) (by omega),bs,c2,bs,q3,bs,e1,bs,zC (by omega) (by omega),bs,zC (by omega) (by omega),bs,e2,bs,zAn h hk hc e3,bs]) (by
     unfold zSQ;simp)with⟨g1,g2⟩|⟨r,j,j1,j2,g1,g2,g3⟩
   ·grind
   grind) (by
   unfold zSR;simp)with⟨k1,k2⟩|⟨r,j,j1,j2,k1,k2,k3⟩
 rotate_left
 ·rw[k1,bs]
  exact .inr ⟨r,rfl,k2,fun q=>k3 (q.c2 j j1 j2)⟩
 rw[k1,bs];simp only
 rw[w1,bs,zAn h hk hc w2,bs];rcases zC5 h hk hc (b:=(lvl x k).w) (cU _ w2)with⟨m1,m2⟩|⟨m1,m2⟩
 rotate_left
 ·rw[m1,bs,Kr,zN]
  exact .inr ⟨_,rfl,kb (by decide),fun q=>m2 q.c3⟩
 rw[m1,bs,K7,zS,bs];rcases zLp (body:=zST x k (fv (k+1) (lvl x k).w)) x.zA.length (k+1) (by omega) (fun j=>mul (suf x (k+1)) (lvl x k).w (iter (lvl x k).o.toNat (sig (suf x (k+1)) (lvl x k)) (xI (x.zA.length-(k+1)) (j-(k+1))))=mul (suf x (k+1)) (xI (x.zA.length-(k+1)) (j-(k+1))) (lvl x k).w) KB (fun j h1 h2 _=>by
   have hU:=zMP h (k:=k+1) (by omega) hc (i:=j-(k+1)) (by omega);have cd:=(h.os.2 k hk).pos;obtain⟨q,q1,q2,q3⟩:=zC3 h (k:=k+1) (by omega) hc hU w2;have ef:V (suf x (k+1)) (iter (lvl x k).o.toNat (sig (suf x (k+1)) (lvl x k)) (xI (x.zA.length-(k+1)) (j-(k+1)))):=vL cU _ hU;refine zBq ((zC5 h hk hc (b:=q) ef).iff ⟨by grind,fun e=>G.cancel_l w2 ef q1 (by rw[e,q2])⟩) (by omega) (bad:=xH.mk 4 k j 0) (kb (by decide)) ?_;unfold zST;rw[xJ h2,zN,zIS h hk h1 h2,bs,yW hk,bs];rw[vQ (S:=V (suf x (k+1))) (body:=zSS x k (at0 x.zA k)) (fun u=>fv (k+1) u) (sig (suf x (k+1)) (lvl x k)) (at0 x.zA k) (by omega) cU (fun u i hu hi=>by
    unfold zSS;simp only
    rw[ic hi,zN,zAn h hk hc hu,bs,zC (by omega) (by omega),bs,cs]) (fun u hu=>by
    unfold zSS;simp) hU,bs,bs,q3,bs]
   rfl) (by
   unfold zST;simp)with⟨n1,n2⟩|⟨r,j,j1,j2,n1,n2,n3⟩
 ·rw[n1,bs]
  exact .inl ⟨rfl,⟨g2,k2,m2,n2⟩⟩
 ·rw[n1,bs]
  exact .inr ⟨r,rfl,n2,fun q=>n3 (q.c4 j j1 j2)⟩
theorem zMS:zYP (f_o x k) (LC x k):=by
 have h6:=h.os.1;have ok:=h.okAt (k:=k+1) (by omega);have G:=zHx h (k:=k+1) (by omega) hc;obtain⟨w1,w2⟩:=zWD h hk;have hA:=zOv h (k:=k+1) (by omega);have hI:=zMN h hk;have cU:∀v,V (suf x (k+1)) v→V (suf x (k+1)) (sig (suf x (k+1)) (lvl x k) v):=by grind[zV2]
 have eqB:∀{a b:Vec},V (suf x (k+1)) a→IsB (f_W (fv (k+1) a) (fv (k+1) b)) (a=b):=fun ha=>zC5 h hk hc ha
 unfold f_o;rw[zC (by omega) (by omega),bs,cs];rcases zLp (body:=zSz x k) x.zA.length (k+1) (by omega) (fun j=>pw (mul (suf x (k+1))) (zeros (suf x (k+1)).length) ((lvl x k).cs.getD (j-(k+1)) []) (at0 x.zA j).toNat=sig (suf x (k+1)) (lvl x k) ((x.zT.getD j []).drop (k+1))) KB (fun j h1 h2 _=>by
   obtain⟨c1,c2,c3⟩:=kK h hk h1 h2;obtain⟨p1,p2⟩:=zRy h hk h1 h2;have cd:=(h.os.2 j h2).pos;refine zBq (eqB (tI G.toMon c3 (at0 x.zA j).toNat)) (by omega) (bad:=xH.mk 1 k j 0) (kb (by decide)) ?_;unfold zSz;rw[xJ h2,zN,zC (by omega) (by omega),bs,cs,c1,bs,zC (by omega) (by omega),bs,zC (by omega) (by omega),bs,c2,bs,yW h2,bs,zLq h hk hc c3 (by omega) (by omega),bs,p1,bs,hI _ p2,bs]) (by
   unfold zSz;simp)with⟨g1,g2⟩|⟨r,j,j1,j2,g1,g2,g3⟩
 rotate_left
 ·rw[g1,bs]
  exact .inr ⟨r,rfl,g2,fun q=>g3 (q.c1 j j1 j2)⟩
 rw[g1,bs];simp only
 rw[bs];rcases zLp (body:=zS1 x k) x.zA.length (k+1) (by omega) (fun i=> ∀j,i+1≤j→j<x.zA.length→
   mul (suf x (k+1)) ((lvl x k).cs.getD (j-(k+1)) []) ((lvl x k).cs.getD (i-(k+1)) [])=mul (suf x (k+1)) ((lvl x k).cs.getD (i-(k+1)) []) (sig (suf x (k+1)) (lvl x k) (((x.zF.getD i []).getD (j-(i+1)) []).drop (k+1)))) KB (fun i h1 h2 _=>by
   obtain⟨c1,c2,c3⟩:=kK h hk h1 h2;unfold zS1;rw[xJ h2,zN,zC (by omega) (by omega),bs,cs];rcases zLp (body:=zS0 x k i) x.zA.length (i+1) (by omega) (fun j=>mul (suf x (k+1)) ((lvl x k).cs.getD (j-(k+1)) []) ((lvl x k).cs.getD (i-(k+1)) [])=mul (suf x (k+1)) ((lvl x k).cs.getD (i-(k+1)) []) (sig (suf x (k+1)) (lvl x k) (((x.zF.getD i []).getD (j-(i+1)) []).drop (k+1)))) KB (fun j h3 h4 _=>by
     obtain⟨d1,d2,d3⟩:=kK h hk (j:=j) (by omega) h4;obtain⟨e1,e2,e3⟩:=zRz h hk h1 h3 h4;refine zBq (eqB (xE ok d3 c3)) (by omega) (bad:=xH.mk 2 k i j) (kb (by decide)) ?_;unfold zS0;rw[xJ h4,zN,d1,bs,zC (by omega) (by omega),bs,zC (by omega) (by omega),bs,c2,bs,bs,zC (by omega) (by omega),bs,zC (by omega) (by omega),bs,d2,bs,e1,bs,zC (by omega) (by omega),bs,zC (by omega) (by omega),bs,e2,bs,hI _ e3,bs,zC (by omega) (by omega),bs,cs,hA _ _ d3 c3,bs,bs,hA _ _ c3 (cU _ e3),bs]) (by
     unfold zS0;simp)with⟨g1,g2⟩|⟨r,j,j1,j2,g1,g2,g3⟩
   ·grind
   grind) (by
   unfold zS1;simp)with⟨k1,k2⟩|⟨r,j,j1,j2,k1,k2,k3⟩
 rotate_left
 ·rw[k1,bs]
  exact .inr ⟨r,rfl,k2,fun q=>k3 (q.c2 j j1 j2)⟩
 rw[k1,bs];simp only
 rw[w1,bs,hI _ w2,bs];rcases eqB (b:=(lvl x k).w) (cU _ w2)with⟨m1,m2⟩|⟨m1,m2⟩
 rotate_left
 ·rw[m1,bs,Kr,zN]
  exact .inr ⟨_,rfl,kb (by decide),fun q=>m2 q.c3⟩
 rw[m1,bs,K7,zS,bs];rcases zLp (body:=zS3 x k (fv (k+1) (lvl x k).w)) x.zA.length (k+1) (by omega) (fun j=>mul (suf x (k+1)) (lvl x k).w (iter (lvl x k).o.toNat (sig (suf x (k+1)) (lvl x k)) (xI (x.zA.length-(k+1)) (j-(k+1))))=mul (suf x (k+1)) (xI (x.zA.length-(k+1)) (j-(k+1))) (lvl x k).w) KB (fun j h1 h2 _=>by
   have hU:=zMP h (k:=k+1) (by omega) hc (i:=j-(k+1)) (by omega);have cd:=(h.os.2 k hk).pos;have ef:V (suf x (k+1)) (iter (lvl x k).o.toNat (sig (suf x (k+1)) (lvl x k)) (xI (x.zA.length-(k+1)) (j-(k+1)))):=vL cU _ hU;refine zBq (eqB (xE ok w2 ef)) (by omega) (bad:=xH.mk 4 k j 0) (kb (by decide)) ?_;unfold zS3;rw[xJ h2,zN,zPs h hk h1 h2,bs];rw[vQ (S:=V (suf x (k+1))) (body:=zS2 x k) (fun u=>fv (k+1) u) (sig (suf x (k+1)) (lvl x k)) (at0 x.zA k) (by omega) cU (fun u i hu hi=>by
    unfold zS2;simp only
    rw[yW hk,bs,ic hi,zN,hI _ hu,bs,zC (by omega) (by omega),bs,cs]) (fun u hu=>by
    unfold zS2;simp only
    rw[yW hk,bs,ib (by omega),zS]) hU,bs,zC (by omega) (by omega),bs,cs]
   have ho:(lvl x k).o=at0 x.zA k:=rfl;rw[←ho,hA _ _ w2 ef,bs,bs,hA _ _ hU w2,bs]) (by
   unfold zS3;simp)with⟨n1,n2⟩|⟨r,j,j1,j2,n1,n2,n3⟩
 ·rw[n1,bs]
  exact .inl ⟨rfl,⟨g2,k2,m2,n2⟩⟩
 ·rw[n1,bs]
  exact .inr ⟨r,rfl,n2,fun q=>n3 (q.c4 j j1 j2)⟩
end
end Go.Pl

namespace Go.Pl
open Go Go.Ab Go.Wk Go.Pc
theorem zFy{m:Vec→Vec→Vec}:∀(i:Nat)(cs:List Vec)(w acc:Vec),i≤cs.length→img m cs (zeros i++w) acc=img m (cs.drop i) w acc
 |0,cs,w,acc,_=>rfl
 |i+1,[],w,acc,h=>by simp at h
 |i+1,c::cs,w,acc,h=>by show img m (c::cs) (0::(zeros i++w)) acc=_;simp only[img,Gl,iter,List.drop_succ_cons];exact zFy i cs w acc (by grind)
theorem zH1{x:SPr}{v:List Int}{j k:Nat}(h:Exp x.zA v j)(hj:j<x.zA.length)(hk:k≤j+1):v.drop k=zeros (j+1-k)++v.drop (j+1):=by
 have:=zAr h hj
 grind[zeros]
section
variable {x:SPr} (h:zFT x) {k:Nat} (hk:k<x.zA.length)
 include h hk
theorem zAs:(lvl x k).cs.length=x.zA.length-(k+1):=by have ok0:=h.okAt (k:=k) (by omega);rw[yE hk]at ok0;rw[ok0.2.2.1,yN]
theorem zUf{j:Nat}(h1:k+1≤j)(h2:j<x.zA.length):sig (suf x (k+1)) (lvl x k) ((x.zT.getD j []).drop (k+1))=img (mul (suf x (k+1))) ((lvl x k).cs.drop (j-k)) (lvl x j).w (zeros (suf x (k+1)).length):=by have t1:=(h.tl j h2).1;have gE:=zAs h hk;rw[zH1 t1 h2 (by omega),sig,zFy _ _ _ _ (by omega),show j+1-(k+1)=j-k from by omega];rfl
theorem zOx:∀(d i:Nat),k+1+i+d=x.zA.length→(Rel (mul (suf x (k+1))) (zeros (suf x (k+1)).length) (suf x (k+1+i)) ((lvl x k).cs.drop i)↔
  (∀j,k+1+i≤j→j<x.zA.length→pw (mul (suf x (k+1))) (zeros (suf x (k+1)).length) ((lvl x k).cs.getD (j-(k+1)) []) (at0 x.zA j).toNat=sig (suf x (k+1)) (lvl x k) ((x.zT.getD j []).drop (k+1)))∧
  (∀a,k+1+i≤a→a<x.zA.length→ ∀j,a+1≤j→j<x.zA.length→
   mul (suf x (k+1)) ((lvl x k).cs.getD (j-(k+1)) []) ((lvl x k).cs.getD (a-(k+1)) [])=mul (suf x (k+1)) ((lvl x k).cs.getD (a-(k+1)) []) (sig (suf x (k+1)) (lvl x k) (((x.zF.getD a []).getD (j-(a+1)) []).drop (k+1)))))
 |0,i,hi=>by
  have gE:=zAs h hk;rw[vO (x:=x) (k:=k+1+i) (by omega),Jau (by omega)];simp only[Rel,true_iff]
  grind
 |d+1,i,hi=>by
  have gE:=zAs h hk;have ih:=zOx d (i+1) (by omega);rw[show k+1+(i+1)=k+1+i+1 from by omega]at ih;have hj:k+1+i<x.zA.length:=by omega
  have hg:(lvl x k).cs.drop i=(lvl x k).cs.getD i []::(lvl x k).cs.drop (i+1):=by rw[Uf (by omega),J2,J4 (by omega)];rfl
  rw[yE hj,hg];simp only[Rel];rw[ih];have e1:=zUf h hk (j:=k+1+i) (by omega) hj;rw[show k+1+i-k=i+1 from by omega]at e1;have ho:(lvl x (k+1+i)).o=at0 x.zA (k+1+i):=rfl;rw[ho,←e1];have e2:∀j,k+1+i+1≤j→j<x.zA.length→ ∀dd,(lvl x (k+1+i)).cs[j-(k+1+i+1)]? =i7 dd→img (mul (suf x (k+1))) ((lvl x k).cs.drop (i+1)) dd (zeros (suf x (k+1)).length)=sig (suf x (k+1)) (lvl x k) (((x.zF.getD (k+1+i) []).getD (j-(k+1+i+1)) []).drop (k+1)):=fun j h1 h2 dd hdd=>by
   obtain⟨_,t2,t3⟩:=h.tl (k+1+i) hj;have t:=t3 (j-(k+1+i+1)) (by omega);rw[zH1 t hj (by omega),sig,zFy _ _ _ _ (by omega),show k+1+i+1-(k+1)=i+1 from by omega]
   congr 1
   simp only[lvl,K0,Kj]at hdd
   grind
  have e3:∀j,k+1+i+1≤j→j<x.zA.length→((lvl x k).cs.drop (i+1))[j-(k+1+i+1)]? =i7 ((lvl x k).cs.getD (j-(k+1)) [])∧ ∃dd,(lvl x (k+1+i)).cs[j-(k+1+i+1)]? =i7 dd:=fun j h1 h2=>by
   have ut:=zAs h hj;refine⟨?_,?_⟩
   ·rw[He,show i+1+(j-(k+1+i+1))=j-(k+1)from by omega,J2,J4 (by omega)];rfl
   ·exact⟨_,J4 (by omega)⟩
  constructor
  ·rintro⟨a1,a2,a3,a4⟩
   refine⟨fun j h1 h2=>?_,fun a h1 h2 j h3 h4=>?_⟩
   ·rcases Jj (k+1+i) j with gD|hge
    ·grind
    ·obtain rfl:j=k+1+i:=by omega
     rw[show k+1+i-(k+1)=i from by omega];exact a1
   ·rcases Jj (k+1+i) a with gD|hge
    ·exact a4 a (by omega) h2 j h3 h4
    ·obtain rfl:a=k+1+i:=by omega
     obtain⟨f1,dd,f2⟩:=e3 j (by omega) h4;have:=a2 _ _ _ f1 f2;rw[e2 j (by omega) h4 dd f2]at this;rw[show k+1+i-(k+1)=i from by omega];exact this
  ·rintro⟨a1,a2⟩
   refine⟨?_,fun kk c dd h1 h2=>?_,by grind,by grind⟩
   ·have:=a1 (k+1+i) (by omega) hj
    rw[show k+1+i-(k+1)=i from by omega]at this;exact this
   ·have gD:kk<x.zA.length-(k+1+i+1):=by
     have:=(Jn.1 h1).1;rw[Jz]at this;omega
    have g:=a2 (k+1+i) (by omega) hj (k+1+i+1+kk) (by omega) (by omega);obtain⟨f1,_⟩:=e3 (k+1+i+1+kk) (by omega) (by omega);rw[show k+1+i+1+kk-(k+1+i+1)=kk from by omega]at f1 g;rw[h1]at f1;have f1:=Lq.inj f1;have g2:=e2 (k+1+i+1+kk) (by omega) (by omega) dd (by rw[show k+1+i+1+kk-(k+1+i+1)=kk from by omega];exact h2);rw[show k+1+i+1+kk-(k+1+i+1)=kk from by omega]at g2;rw[g2,f1];rw[show k+1+i-(k+1)=i from by omega]at g;exact g
theorem zA1:wR (suf x k)↔wR (suf x (k+1))∧LC x k:=by
 have hr:=zOx h hk (x.zA.length-(k+1)) 0 (by omega);have hl:=yN x (k+1);rw[U9,Qd]at hr;rw[yE hk];simp only[wR];rw[hr];constructor
 ·rintro⟨a,⟨b1,b2⟩,c,d⟩
  refine⟨a,⟨b1,b2,c,fun j h1 h2=>?_⟩⟩
  grind
 ·rintro⟨a,b⟩
  refine⟨a,⟨b.c1,b.c2⟩,b.c3,fun j hj=>?_⟩;have:=b.c4 (k+1+j) (by omega) (by omega);rw[show k+1+j-(k+1)=j from by omega]at this
  rwa [hl]
end
theorem zBr{x:SPr}(h:wR (suf x 0))(k:Nat):wR (suf x k):=by
 have:=zE5 h k
 grind
def zDQ(x:SPr):Prop:=Pres x∧wR (suf x 0)∧zFU x
theorem zE7{x:SPr}(hl:x.zA.length≤1048576):IsB (zUF x) (zDQ x):=by
 unfold zUF;rcases zDo hl with⟨h1,h2⟩|⟨h1,h2⟩
 ·have h6:=h2.os.1
  rw[h1,bs,zN];unfold zXu;obtain⟨r,r1,r2⟩:=tC (body:=zMc x) (Q:=fun r=> ∃s:Nat,r=(s:Int)∧wR (suf x s)∧(s=0∨ ¬wR (suf x (s-1)))) (fun i s=>i≤x.zA.length∧s=((x.zA.length-i:Nat):Int)∧wR (suf x (x.zA.length-i))) x.zA.length (fun i s hi ⟨_,hs,gZ⟩=>by
    subst hs;have hk:x.zA.length-i-1<x.zA.length:=by omega
    have e9:x.zA.length-(i+1)=x.zA.length-i-1:=by omega
    rw[e9];have e8:i+1≤x.zA.length:=by omega
    rw[show x.zA.length-i=x.zA.length-i-1+1 from by omega]at gZ ⊢
    have mY:=zMR h2.toPres hk gZ;have pS:=zA1 h2.toPres.w hk
    generalize x.zA.length-i-1=k at*
    unfold zMc;rw[ic (by omega),zN,zC (by omega) (by omega),bs,show(((k+1:Nat):Int)-1)=(k:Int)from by omega];rcases mY with⟨g1,g2⟩|⟨r,g1,g2,g3⟩
    ·simp_all
    grind) (fun s ⟨_,hs,gZ⟩=>by
    rw[Kl]at hs gZ;subst hs;unfold zMc
    grind) (s:=(x.zA.length:Int)) ⟨by omega,by rfl,by rw[Jb5,vO (by omega)];simp only[wR]⟩
  obtain⟨s,rfl,gZ,hs⟩:=r2;rw[r1,bs,bs];cases s with
  |zero=>exact .inl ⟨rfl,h2.toPres,gZ,h2⟩
  |succ s=>
   refine .inr ⟨?_,fun q=>?_⟩
   ·congr 1
   ·rcases hs with hs|hs
    ·omega
    ·exact hs (zBr q.2.1 _)
 ·rw[h1,bs,zS]
  exact .inr ⟨rfl,fun q=>h2 q.2.2⟩
theorem zMT{x:SPr}(hl:x.zA.length≤1048576):IsB (zU8 x) (zDQ x):=by
 unfold zU8;rcases zDp hl with⟨h1,h2⟩|⟨h1,h2⟩
 ·have h6:=h2.os.1
  rw[h1,bs,zN];unfold zXo zXn;rw[zC (by omega) (by omega),bs];obtain⟨r,r1,r2⟩:=tC (body:=zLY x) (Q:=fun r=>(r=.inl ()∧wR (suf x 0))∨ ∃f,r=.inr f∧f.Kind≠0∧ ¬wR (suf x 0)) (fun i s=>i≤x.zA.length∧s=((x.zA.length-i:Nat):Int)-1∧wR (suf x (x.zA.length-i))) x.zA.length (fun i s hi ⟨_,hs,gZ⟩=>by
    subst hs;have hk:x.zA.length-i-1<x.zA.length:=by omega
    have e9:x.zA.length-(i+1)=x.zA.length-i-1:=by omega
    rw[e9];have e8:i+1≤x.zA.length:=by omega
    rw[show x.zA.length-i=x.zA.length-i-1+1 from by omega]at gZ ⊢
    have mY:=zMS h2.toPres hk gZ;have pS:=zA1 h2.toPres.w hk
    generalize x.zA.length-i-1=k at*
    unfold zLY;rw[show(((k+1:Nat):Int)-1)=(k:Int)from by omega,ic (by omega),zN];rcases mY with⟨g1,g2⟩|⟨r,g1,g2,g3⟩
    ·left
     rw[g1,bs];simp only
     rw[show((0:Int) != 0)=ia from rfl,zS,zC (by omega) (by omega),bs]
     grind
    ·right
     rw[g1,bs,show(r.Kind != 0)=i9 from by grind,zN];exact⟨_,rfl,.inr ⟨r,rfl,g2,by grind[zBr]⟩⟩) (fun s ⟨_,hs,gZ⟩=>by
    rw[Kl]at hs gZ;subst hs;unfold zLY
    grind) (s:=(x.zA.length:Int)-1) ⟨by omega,by rfl,by rw[Jb5,vO (by omega)];simp only[wR]⟩
  rw[r1,bs];rcases r2 with⟨rfl,q⟩|⟨f,rfl,g1,g2⟩
  ·exact .inl ⟨rfl,h2.toPres,q,h2⟩
  ·simp only
   rw[bs,show(f.Kind==0)=ia from by grind];exact .inr ⟨rfl,fun q=>g2 q.2.1⟩
 ·rw[h1,bs,zS]
  exact .inr ⟨rfl,fun q=>h2 q.2.2⟩
end Go.Pl

namespace Go.Pl
open Go Go.Ab Go.Wk
abbrev Mx:=List (List Int)
def S:Nat→(Nat→Int)→Int
 |0,_=>0
 |n+1,f=>S n f+f n
theorem xM{n:Nat}{f g:Nat→Int}(h:∀i,i<n→f i=g i):S n f=S n g:=by
 induction n with
 |zero=>rfl
 |succ n ih=>simp only[S];rw[ih fun i hi=>h i (by omega),h n (by omega)]
theorem kL{p:Int}{f g:Nat→Int}:∀{n:Nat},(∀i,i<n→f i%p=g i%p)→S n f%p=S n g%p
 |0,_=>rfl
 |n+1,h=>by simp only[S];rw[Kc,kL (n:=n) fun i hi=>h i (by omega),h n (by omega),←Kc]
theorem qF:∀n:Nat,S n (fun _=>0)=0
 |0=>rfl
 |n+1=>by simp only[S,qF n];rfl
theorem zC6{f g:Nat→Int}:∀n:Nat,S n (fun i=>f i+g i)=S n f+S n g
 |0=>rfl
 |n+1=>by simp only[S,zC6 n];omega
theorem zLr{f:Nat→Int}(a:Int):∀n:Nat,S n (fun i=>f i*a)=S n f*a
 |0=>by simp[S]
 |n+1=>by simp only[S,zLr a n,Qo]
theorem zC7{f:Nat→Int}(a:Int):∀n:Nat,S n (fun i=>a*f i)=a*S n f
 |0=>by simp[S]
 |n+1=>by simp only[S,zC7 a n,Jck]
theorem zH2{f:Nat→Nat→Int}(m:Nat):∀n:Nat,S n (fun i=>S m (fun j=>f i j))=S m (fun j=>S n (fun i=>f i j))
 |0=>by simp only[S];exact(qF m).symm
 |n+1=>by simp only[S];rw[zH2 m n,zC6]
theorem zAd{f:Nat→Int}{k:Nat}:∀{n:Nat},k<n→(∀i,i<n→i≠k→f i=0)→S n f=f k
 |0,h,_=>by omega
 |n+1,h,hz=>by
  simp only[S]
  by_cases hk:k=n
  ·subst hk
   rw[xM (g:=fun _=>0) fun i hi=>hz i (by omega) (by omega),qF];omega
  ·rw[zAd (n:=n) (by omega) fun i hi=>hz i (by omega),hz n (by omega) (by omega)];omega
def mkv(D:Nat)(f:Nat→Int):List Int:=(Jg D).map f
theorem yA(D:Nat)(f:Nat→Int):(mkv D f).length=D:=by simp[mkv]
theorem zCX{D:Nat}{f:Nat→Int}{i:Nat}(h:i<D):(mkv D f)[i]? =i7 (f i):=by simp[mkv,h]
theorem yG{D:Nat}{f:Nat→Int}{i:Nat}(h:i<D):at0 (mkv D f) i=f i:=by rw[at0,J2,zCX h];rfl
theorem yC{D:Nat}{f g:Nat→Int}(h:∀i,i<D→f i=g i):mkv D f=mkv D g:=by unfold mkv;apply Q9;intro i hi;exact h i (by simpa using hi)
theorem jC{D:Nat}{f:Nat→Int}{j:Nat}{a:Int}:(mkv D f).set j a=mkv D (fun i=>if i=j then a else f i):=by
 apply Kv;intro i;rw[Jbm,yA]
 by_cases hi:i<D
 ·by_cases gM:j=i
  ·subst gM;rw[if_pos rfl,if_pos hi,zCX hi,if_pos rfl]
  ·rw[if_neg gM,zCX hi,zCX hi,if_neg fun h=>gM h.symm]
 ·have h1:∀g:Nat→Int,(mkv D g)[i]? =i8:=fun g=>K6 (by rw[yA];omega)
  rw[h1,h1]
  by_cases gM:j=i
  ·subst gM;rw[if_pos rfl,if_neg hi]
  ·rw[if_neg gM]
theorem uA{v:List Int}{D:Nat}(h:v.length=D):v=mkv D (at0 v):=by
 apply Kv;intro i
 by_cases hi:i<D
 ·rw[zCX hi,at0,J2,J4 (by omega)];rfl
 ·rw[K6 (by omega),K6 (by rw[yA];omega)]
theorem tU(D:Nat):J1 D (0:Int)=mkv D (fun _=>0):=by
 apply Kv;intro i
 by_cases hi:i<D
 ·rw[zCX hi];simp[hi]
 ·rw[K6 (by simp;omega),K6 (by rw[yA];omega)]
abbrev ent(B:Mx)(l j:Nat):Int:=at0 (B.getD l []) j
def wA(p:Int)(D:Nat)(r:List Int)(B:Mx):List Int:=mkv D fun j=>S D (fun l=>at0 r l*ent B l j)%p
def PM(p:Int)(D:Nat)(A B:Mx):Mx:=A.map fun r=>wA p D r B
def idM(D:Nat):Mx:=(Jg D).map fun i=>mkv D fun j=>if j=i then 1 else 0
def Row(p:Int)(D:Nat)(r:List Int):Prop:=r.length=D∧ ∀i,i<D→0≤at0 r i∧at0 r i≤p-1
def Mat(p:Int)(D:Nat)(A:Mx):Prop:=A.length=D∧ ∀i,i<D→Row p D (A.getD i [])
theorem zBD{p:Int}{D i:Nat}{A B:Mx}(h:i<A.length):(PM p D A B).getD i []=wA p D (A.getD i []) B:=by simp only[PM,J2,K0,J4 h];rfl
theorem vX{p:Int}{D:Nat}{A B:Mx}:(PM p D A B).length=A.length:=by simp[PM]
theorem zBE{p:Int}{D:Nat}{A B:Mx}(hp:0<p)(hA:A.length=D):Mat p D (PM p D A B):=by refine⟨by rw[vX,hA],fun i hi=>?_⟩;rw[zBD (by omega)];refine⟨by rw[wA,yA],fun j hj=>?_⟩;rw[wA,yG hj];have h1:=Kx (S D fun l=>at0 (A.getD i []) l*ent B l j) (show p≠0 by omega);have h2:=Kg (S D fun l=>at0 (A.getD i []) l*ent B l j) hp;omega
theorem zMU{p:Int}{D i j:Nat}{A B:Mx}(hA:A.length=D)(hi:i<D)(hj:j<D):ent (PM p D A B) i j=S D (fun l=>ent A i l*ent B l j)%p:=by rw[ent,zBD (by omega),wA,yG hj]
theorem zH3{D:Nat}{A B:Mx}(hA:A.length=D)(hB:B.length=D)(h:∀i,i<D→A.getD i []=B.getD i []):A=B:=by
 apply Kv;intro i
 by_cases hi:i<D
 ·have:=h i hi
  rw[J2,J2,J4 (by omega),J4 (by omega)]at this;rw[J4 (by omega),J4 (by omega)];exact congrArg i7 this
 ·rw[K6 (by omega),K6 (by omega)]
theorem zLs{p:Int}{D:Nat}{A B C:Mx}(hA:A.length=D)(hB:B.length=D):PM p D (PM p D A B) C=PM p D A (PM p D B C):=by
 refine zH3 (by rw[vX,vX,hA]) (by rw[vX,hA]) fun i hi=>?_
 rw[zBD (A:=PM p D A B) (by rw[vX];omega),zBD (A:=A) (B:=PM p D B C) (by omega)];unfold wA;refine yC fun j hj=>?_
 have e1:S D (fun l=>at0 ((PM p D A B).getD i []) l*ent C l j)%p=S D (fun l=>S D (fun q=>ent A i q*ent B q l)*ent C l j)%p:=kL fun l hl=>by
  have:=zMU (p:=p) (B:=B) hA hi hl;simp only[ent]at this ⊢
  rw[this,Jq,Jy,←Jq]
 have e2:S D (fun l=>at0 (A.getD i []) l*ent (PM p D B C) l j)%p=S D (fun q=>ent A i q*S D (fun l=>ent B q l*ent C l j))%p:=kL fun q hq=>by rw[zMU hB hq hj,Jq,Jy,←Jq]
 rw[e1,e2]
 congr 1
 have e3:(fun l=>S D (fun q=>ent A i q*ent B q l)*ent C l j)=fun l=>S D (fun q=>ent A i q*ent B q l*ent C l j):=funext fun l=>(zLr _ _).symm
 have e4:(fun q=>ent A i q*S D (fun l=>ent B q l*ent C l j))=fun q=>S D (fun l=>ent A i q*ent B q l*ent C l j):=funext fun q=>by rw[←zC7];exact xM fun l _=>by rw[H5]
 rw[e3,e4];exact zH2 D D
theorem uB(D:Nat):(idM D).length=D:=by simp[idM]
theorem zCY{D i:Nat}(h:i<D):(idM D).getD i []=mkv D fun j=>if j=i then 1 else 0:=by simp[idM,J2,h]
theorem tM{p:Int}{D:Nat}(hp:2≤p):Mat p D (idM D):=by refine⟨uB D,fun i hi=>?_⟩;rw[zCY hi];refine⟨yA _ _,fun j hj=>?_⟩;rw[yG hj];split<;>omega
theorem sX{p a:Int}(h:0≤a∧a≤p-1):a%p=a:=K5 h.1 (by omega)
theorem zBF{p:Int}{D:Nat}{B:Mx}(hB:Mat p D B):PM p D (idM D) B=B:=by
 refine zH3 (by rw[vX,uB]) hB.1 fun i hi=>?_
 rw[zBD (by rw[uB];exact hi),zCY hi,wA];obtain⟨h1,h2⟩:=hB.2 i hi;refine Eq.trans (yC fun j hj=>?_) (uA h1).symm;rw[zAd (k:=i) hi fun l hl gf=>by rw[yG hl,if_neg gf,Qh],yG hi,if_pos rfl,Jbi];exact sX (h2 j hj)
theorem zC8{p:Int}{D:Nat}{A:Mx}(hA:Mat p D A):PM p D A (idM D)=A:=by
 refine zH3 (by rw[vX,hA.1]) hA.1 fun i hi=>?_
 rw[zBD (by rw[hA.1];exact hi),wA];obtain⟨h1,h2⟩:=hA.2 i hi;refine Eq.trans (yC fun j hj=>?_) (uA h1).symm;rw[zAd (k:=j) hj fun l hl gf=>by rw[ent,zCY hl,yG hj,if_neg (fun h=>gf h.symm),Lb],ent,zCY hj,yG hj,if_pos rfl,Lt];exact sX (h2 j hj)
theorem zR0{p:Int}{D i j:Nat}{B:Mx}(hB:Mat p D B)(hi:i<D)(hj:j<D):ixO B (i:Int)=i7 (B.getD i [])∧ixO (B.getD i []) (j:Int)=i7 (ent B i j)∧(B.getD i []).length=D∧0≤ent B i j∧ent B i j≤p-1:=by obtain⟨h1,h2⟩:=hB.2 i hi;have:=hB.1;exact⟨yX [] (by omega),yW (by omega),h1,h2 j hj⟩
def acc(p:Int)(D i:Nat)(r:List Int)(B:Mx):List Int:=mkv D fun j=>S i (fun l=>at0 r l*ent B l j)%p
def zDq(p:Int)(D i k:Nat)(r:List Int)(B:Mx):List Int:=mkv D fun j=>if j<k then S (i+1) (fun l=>at0 r l*ent B l j)%p else S i (fun l=>at0 r l*ent B l j)%p
theorem zIT{p:Int}{D i:Nat}{r:List Int}{B:Mx}:zDq p D i 0 r B=acc p D i r B:=yC fun j _=>by rw[if_neg (by omega)]
theorem zIU{p:Int}{D i:Nat}{r:List Int}{B:Mx}:zDq p D i D r B=acc p D (i+1) r B:=yC fun j hj=>by rw[if_pos hj]
theorem zLt{p:Int}{D i k:Nat}{r:List Int}{B:Mx}(hk:k<D){a:Int}(ha:a=(at0 (zDq p D i k r B) k+at0 r i*ent B i k)%p):(zDq p D i k r B).set k a=zDq p D i (k+1) r B:=by
 subst ha;simp only[zDq];rw[jC,yG hk,if_neg (by omega)];refine yC fun j hj=>?_
 by_cases hjk:j=k
 ·subst hjk
  rw[if_pos rfl,if_pos (by omega)];simp only[S];rw[Int.emod_add_emod]
 ·rw[if_neg hjk]
  by_cases gD:j<k
  ·rw[if_pos gD,if_pos (by omega)]
  ·rw[if_neg gD,if_neg (by omega)]
theorem zLu{p:Int}{D i k j:Nat}{r:List Int}{B:Mx}(hp:0<p)(hj:j<D):0≤at0 (zDq p D i k r B) j∧at0 (zDq p D i k r B) j≤p-1:=by
 rw[zDq,yG hj];split
 ·have h1:=Kx (S (i+1) fun l=>at0 r l*ent B l j) (show p≠0 by omega)
  have h2:=Kg (S (i+1) fun l=>at0 r l*ent B l j) hp;omega
 ·have h1:=Kx (S i fun l=>at0 r l*ent B l j) (show p≠0 by omega)
  have h2:=Kg (S i fun l=>at0 r l*ent B l j) hp;omega
theorem zH4{p:Int}{D i k:Nat}{r:List Int}{B:Mx}:(zDq p D i k r B).length=D:=yA _ _
theorem zOy{p:Int}{D i k j:Nat}{r:List Int}{B:Mx}(hj:j<D):ixO (zDq p D i k r B) (j:Int)=i7 (at0 (zDq p D i k r B) j):=yW (by rw[zH4];exact hj)
theorem zLv{p:Int}{D:Nat}{r:List Int}{B:Mx}:J1 D (0:Int)=acc p D 0 r B:=by rw[tU];exact yC fun j _=>by simp[S]
theorem zIV{a b p:Int}(hp:p≤7)(ha:0≤a∧a≤p-1)(hb:0≤b∧b≤p-1):0≤a*b∧a*b≤36:=by have h1:0≤a*b:=G3 ha.1 hb.1;have h2:a*b≤6*6:=Lm (by omega) (by omega) hb.1 (by omega);omega
section
variable {p:Int}{D:Nat} (hp:Prime p) (hD:D≤8)
 include hp hD
theorem zDR{r:List Int}{B:Mx}(hr:Row p D r)(hB:Mat p D B):f_G p r B (D:Int)=i7 (wA p D r B):=by
 have h7:=hp.pos;have hBl:=hB.1;have fU:=hr.1;unfold f_G;rw[xP (by omega),bs,zLv (p:=p) (r:=r) (B:=B)];have:=zY (body:=zS5 p r B) (r:=acc p D D r B) (fun i=>(acc p D i r B,(i:Int))) D (fun i hi=>by
  have dt:=hr.2 i hi;unfold zS5;simp only
  rw[fU,hBl,xJ hi,zN,zN];have inner:=zY (body:=zS4 p r B (acc p D i r B,(i:Int))) (r:=acc p D (i+1) r B) (fun k=>(zDq p D i k r B,(k:Int))) D (fun k hk=>by
   obtain⟨b1,b2,b3,b4⟩:=zR0 hB hi hk;have ha:=zLu (p:=p) (i:=i) (k:=k) (r:=r) (B:=B) (by omega) hk;have hm:=zIV (by omega) dt b4;unfold zS4;simp only
   rw[zH4,xJ hk,zN,b1,bs,b3,xJ hk,zN,zOy hk,bs,yW (by omega),bs,bs,b2,bs,zC (by omega) (by omega),bs,zC (by omega) (by omega),bs];have dv:uU (at0 (zDq p D i k r B) k+at0 r i*ent B i k) p=i7 ((at0 (zDq p D i k r B) k+at0 r i*ent B i k)%p):=by unfold uU;rw[if_neg (by omega),Kw (by omega)]
   rw[dv,bs,bs,zC (by omega) (by omega),bs,cs,Ja,zLt hk rfl]) (by
   unfold zS4;simp only
   rw[zH4,uH,zS,zIU])
  rw[zIT,show((0:Nat):Int)=0 from rfl]at inner;rw[inner,bs,zC (by omega) (by omega),bs,cs]) (by
  unfold zS5;simp only
  rw[fU,uH,zS])
 rw[show((0:Nat):Int)=0 from rfl]at this;rw[this,bs];rfl
theorem zJF{a:Int}(h0:0≤a)(_h1:a≤1000):zKm a p=i7 (a%p):=by
 have _:=hD;have h7:=hp.pos;have e1:=Kx a (show p≠0 by omega);have e2:=Kg a (show 0<p by omega);unfold zKm uU;rw[if_neg (by omega),bs,Kw h0,zC (by omega) (by omega),bs,if_neg (by omega),bs,Kw (by omega)]
 congr 1
 rw[U0,Jy]
theorem zFz{i:Nat}{r:List Int}{B:Mx}(hi:i<D)(hr:Row p D r)(hB:Mat p D B):f_u (acc p D i r B) (B.getD i []) (at0 r i) p=i7 (acc p D (i+1) r B):=by
 have h7:=hp.pos;have dt:=hr.2 i hi;unfold f_u;have hl:(acc p D i r B).length=D:=yA _ _;have inner:=zY (body:=zMe (acc p D i r B) (B.getD i []) (at0 r i) p) (r:=acc p D (i+1) r B) (fun k=>(zDq p D i k r B,(k:Int))) D (fun k hk=>by
  obtain⟨b1,b2,b3,b4⟩:=zR0 hB hi hk;have ha:=zLu (p:=p) (i:=i) (k:=k) (r:=r) (B:=B) (by omega) hk;have hm:=zIV (by omega) dt b4;unfold zMe;simp only
  rw[hl,xJ hk,zN,zOy hk,bs,b2,bs,zC (by omega) (by omega),bs,zC (by omega) (by omega),bs,zJF hp hD (by omega) (by omega),bs,bs,zC (by omega) (by omega),bs,cs,Ja,zLt hk rfl]) (by
  unfold zMe;simp only
  rw[hl,uH,zS,zIU])
 rw[zIT,show((0:Nat):Int)=0 from rfl]at inner;rw[inner,bs]
theorem zBs{r:List Int}{B:Mx}{q:Int}(hr:Row p D r)(hB:Mat p D B)(hq:q=(D:Int)):zSZ r (zU.mk p q B)=i7 (wA p D r B):=by
 subst hq;have fU:=hr.1;unfold zSZ;simp only
 rw[xP (by omega),bs,zLv (p:=p) (r:=r) (B:=B)];have:=zY (body:=zMf r (zU.mk p (D:Int) B)) (r:=acc p D D r B) (fun i=>(acc p D i r B,(i:Int))) D (fun i hi=>by
  have hBl:=hB.1;unfold zMf;simp only
  rw[fU,xJ hi,zN,yW (by omega),bs,yX [] (by omega),bs,zFz hp hD hi hr hB,bs,zC (by omega) (by omega),bs,cs]) (by
  unfold zMf;simp only
  rw[fU,uH,zS])
 rw[show((0:Nat):Int)=0 from rfl]at this;rw[this,bs];rfl
theorem zIW{A B:Mx}{i:Nat}(hi:i<A.length):(PM p D A B).take i++[wA p D (A.getD i []) B]=(PM p D A B).take (i+1):=by
 have _:=hp;have _:=hD;rw[Jw (by rw[vX];exact hi)]
 congr 2
 have:=zBD (p:=p) (D:=D) (B:=B) hi;rw[J2,J4 (by rw[vX];exact hi)]at this;exact this.symm
theorem kE{A B:Mx}(hA:Mat p D A)(hB:Mat p D B):f_S p A B (D:Int)=i7 (PM p D A B):=by
 have fK:=hA.1;unfold f_S;have:=zY (body:=zS6 p A B (D:Int)) (r:=PM p D A B) (fun i=>((PM p D A B).take i,(i:Int))) D (fun i hi=>by
  unfold zS6;simp only
  rw[fK,xJ hi,zN,yX [] (by omega),bs,zDR hp hD (hA.2 i hi) hB,bs,yT (by rw[Ka,vX];simp;omega),bs,zC (by omega) (by omega),bs,cs,zIW hp hD (by omega)]) (by
  unfold zS6;simp only
  rw[fK,uH,zS,Jr (by rw[vX];omega)])
 rw[show((0:Nat):Int)=0 from rfl,K8]at this;rw[this,bs]
theorem zIl{A B:Mx}{q:Int}(hA:Mat p D A)(hB:Mat p D B):zUJ (zU.mk p q A) (zU.mk p (D:Int) B)=i7 (zU.mk p (D:Int) (PM p D A B)):=by
 have fK:=hA.1;unfold zUJ;have:=zY (body:=zMg (zU.mk p q A) (zU.mk p (D:Int) B)) (r:=PM p D A B) (fun i=>((PM p D A B).take i,(i:Int))) D (fun i hi=>by
  unfold zMg;simp only
  rw[fK,xJ hi,zN,yX [] (by omega),bs,zBs hp hD (hA.2 i hi) hB rfl,bs,yT (by rw[Ka,vX];simp;omega),bs,zC (by omega) (by omega),bs,cs,zIW hp hD (by omega)]) (by
  unfold zMg;simp only
  rw[fK,uH,zS,Jr (by rw[vX];omega)])
 rw[show((0:Nat):Int)=0 from rfl,K8]at this;rw[this,bs]
theorem zLw{i:Nat}(_hi:i<D):(J1 D (0:Int)).set i 1=mkv D fun j=>if j=i then 1 else 0:=by have _:=hp;have _:=hD;rw[tU,jC]
theorem zOz{i:Nat}(hi:i<D):(idM D).take i++[mkv D fun j=>if j=i then 1 else 0]=(idM D).take (i+1):=by
 have _:=hp;have _:=hD;rw[Jw (by rw[uB];exact hi)]
 congr 2
 have:=zCY hi;rw[J2,J4 (by rw[uB];exact hi)]at this;exact this.symm
theorem zH5:f_J (D:Int)=i7 (idM D):=by
 unfold f_J;have:=zY (body:=zLZ (D:Int)) (r:=idM D) (fun i=>((idM D).take i,(i:Int))) D (fun i hi=>by
  unfold zLZ;simp only
  rw[xJ hi,zN,xP (by omega),bs,vT,Ke,if_pos hi,bs,Ja,zLw hp hD hi,yT (by rw[Ka,uB];simp;omega),bs,zC (by omega) (by omega),bs,cs,zOz hp hD hi]) (by
  unfold zLZ;simp only
  rw[uH,zS,Jr (by rw[uB];omega)])
 rw[show((0:Nat):Int)=0 from rfl,K8]at this;rw[this,bs]
theorem zD3:f_T p (D:Int)=i7 (zU.mk p (D:Int) (idM D)):=by
 unfold f_T;have:=zY (body:=zPR (D:Int)) (r:=idM D) (fun i=>((idM D).take i,(i:Int))) D (fun i hi=>by
  unfold zPR;simp only
  rw[xJ hi,zN,xP (by omega),bs,vT,Ke,if_pos hi,bs,Ja,zLw hp hD hi,yT (by rw[Ka,uB];simp;omega),bs,zC (by omega) (by omega),bs,cs,zOz hp hD hi]) (by
  unfold zPR;simp only
  rw[uH,zS,Jr (by rw[uB];omega)])
 rw[show((0:Nat):Int)=0 from rfl,K8]at this;rw[this,bs]
end
end Go.Pl

namespace Go.Pl
open Go Go.Ab Go.Wk Go.Pc
def nw:Nat→List Int→List Nat
 |_,[]=>[]
 |o,a::v=>J1 a.toNat o++nw (o+1) v
theorem zCZ:∀(o:Nat)(u v:List Int),nw o (u++v)=nw o u++nw (o+u.length) v
 |o,[],v=>by simp[nw]
 |o,a::u,v=>by
  simp only[K1,nw,zCZ (o+1) u v,Jc,J7]
  grind
theorem zJG{v:List Int}{i:Nat}(h:i<v.length):nw 0 (v.take (i+1))=nw 0 (v.take i)++J1 (at0 v i).toNat i:=by
 rw[Jw h,zCZ,Ka,Qs (by omega),Jb];simp only[nw,Je]
 grind
theorem zLx{n:Nat}:∀(o:Nat)(v:List Int),o+v.length≤n→ ∀w∈nw o v,w<n
 |o,[],_,w,h=>by grind[nw]
 |o,a::v,hv,w,h=>by
  simp only[nw,Jd,J7]at h hv;rcases h with h|h
  ·grind
  ·exact zLx (o+1) v (by omega) w h
theorem zF0:∀(o:Nat)(v:List Int),(∀i,i<v.length→at0 v i≤6)→(nw o v).length≤6*v.length
 |o,[],_=>by simp[nw]
 |o,a::v,h=>by
  have h0:=h 0 (by simp);have:=zF0 (o+1) v fun i hi=>by
   have:=h (i+1) (by grind)
   grind
  simp only[at0,Hf]at h0
  grind[nw]
def wM(p:Int)(D:Nat)(A:List Mx)(ws:List Nat)(B:Mx):Mx:=ws.foldl (fun B w=>PM p D B (A.getD w [])) B
theorem zDa{p:Int}{D:Nat}{A:List Mx}{u v:List Nat}{B:Mx}:wM p D A (u++v) B=wM p D A v (wM p D A u B):=by simp[wM,Gm]
theorem zH6{p:Int}{D:Nat}{A:List Mx}{w:Nat}:∀(k:Nat)(B:Mx),wM p D A (J1 k w) B=iter k (fun B=>PM p D B (A.getD w [])) B
 |0,_=>rfl
 |k+1,B=>by rw[Jp];show wM p D A (J1 k w) (PM p D B (A.getD w []))=_;rw[zH6 k];rfl
theorem zBG{p:Int}{D:Nat}{A:List Mx}(hp:0<p):∀(ws:List Nat){B:Mx},Mat p D B→Mat p D (wM p D A ws B)
 | [],_,hB=>hB
 |_w::ws,_,hB=>zBG hp ws (zBE hp hB.1)
theorem zH7{p:Int}{D:Nat}{A:List Mx}(hp:0<p){C:Mx}(hC:C.length=D):∀(ws:List Nat){B:Mx},Mat p D B→wM p D A ws (PM p D C B)=PM p D C (wM p D A ws B)
 | [],_,_=>rfl
 |w::ws,B,hB=>by show wM p D A ws (PM p D (PM p D C B) (A.getD w []))=PM p D C (wM p D A ws (PM p D B (A.getD w [])));rw[zLs hC hB.1,zH7 hp hC ws (zBE hp hB.1)]
structure MOk (n:Nat) (m:zE) (D:Nat):Prop where
 p:Prime m.Prime
 d:m.Dim=(D:Int)
 d1:1≤D
 d3:D≤3
 len:m.zH.length=n
 mat:∀i,i<n→Mat m.Prime D (m.zH.getD i [])
structure zR1 (n:Nat) (m:zE) (D:Nat):Prop where
 p:Prime m.Prime
 d1:1≤D
 d3:D≤200
 len:m.zH.length=n
 mat:∀i,i<n→Mat m.Prime D (m.zH.getD i [])
theorem MOk.b{n D:Nat}{m:zE}(h:MOk n m D):zR1 n m D:=⟨h.p,h.d1,by have:=h.d3;omega,h.len,h.mat⟩
section
variable {n D:Nat}{m:zE} (hm:MOk n m D) (hn:n≤9)
 include hm hn
theorem zLy{v:List Int}(hl:v.length=n)(hv:∀i,i<n→0≤at0 v i∧at0 v i≤6):f_K m v=i7 (wM m.Prime D m.zH (nw 0 v) (idM D)):=by
 have h7:=hm.p.pos;have h3:=hm.d3;have gj:=hm.len;unfold f_K;rw[hm.d,zH5 hm.p (by omega),bs];have hI:∀i,Mat m.Prime D (wM m.Prime D m.zH (nw 0 (v.take i)) (idM D)):=by grind[zBG,tM]
 have:=zY (body:=zS8 m v) (r:=wM m.Prime D m.zH (nw 0 v) (idM D)) (fun i=>(wM m.Prime D m.zH (nw 0 (v.take i)) (idM D),(i:Int))) n (fun i hi=>by
  have hvi:=hv i hi;unfold zS8;simp only
  rw[hl,xJ hi,zN];rw[vQ (S:=Mat m.Prime D) (body:=zS7 m v (wM m.Prime D m.zH (nw 0 (v.take i)) (idM D),(i:Int))) (fun B=>B) (fun B=>PM m.Prime D B (m.zH.getD i [])) (at0 v i) hvi.1 (fun B hB=>zBE (by omega) hB.1) (fun B q hB hq=>by
   unfold zS7;simp only
   rw[yW (by omega),bs,ic hq,zN,yX [] (by omega),bs,hm.d,kE hm.p (by omega) hB (hm.mat i hi),bs,zC (by omega) (by omega),bs,cs]) (fun B hB=>by
   unfold zS7;simp only
   rw[yW (by omega),bs,ib (by omega),zS]) (hI i),bs,zC (by omega) (by omega),bs,cs]
  grind[zJG,zDa,zH6]) (by
  unfold zS8
  grind)
 rw[show((0:Nat):Int)=0 from rfl,K8]at this
 grind[nw,wM]
abbrev enW(ws:List Nat):List Int:=ws.map fun(w:Nat)=>(w:Int)+1
theorem zD4{i:Nat}(hi:i<n):zN1 m (i:Int)=i7 (zU.mk m.Prime (D:Int) (m.zH.getD i [])):=by have _:=hn;have gj:=hm.len;unfold zN1;rw[yX [] (by omega),bs,hm.d]
theorem zAV{ws:List Nat}(hw:∀w∈ws,w<n)(hl:ws.length≤1000000):f_B m (enW ws)=i7 (zU.mk m.Prime (D:Int) (wM m.Prime D m.zH ws (idM D))):=by
 have h7:=hm.p.pos;have h3:=hm.d3;unfold f_B;rw[hm.d,zD3 hm.p (by omega),bs];have hI:∀i,Mat m.Prime D (wM m.Prime D m.zH (ws.take i) (idM D)):=by grind[zBG,tM]
 have aX:(enW ws).length=ws.length:=by simp
 have:=zY (body:=zTa m (enW ws)) (r:=(m.Prime,(D:Int),wM m.Prime D m.zH ws (idM D))) (fun i=>(m.Prime,(D:Int),wM m.Prime D m.zH (ws.take i) (idM D),(i:Int))) ws.length (fun i hi=>by
  have mu:=hw ws[i] (K9 hi);unfold zTa;simp only
  rw[aX,xJ hi,zN,vT,K0,J4 hi];simp only[H0];rw[bs,zC (by omega) (by omega),bs,show((ws[i]:Nat):Int)+1-1=((ws[i]:Nat):Int)from by omega,zD4 hm hn mu,bs,zIl hm.p (by omega) (hI i) (hm.mat _ mu),bs,zC (by omega) (by omega),bs,cs,Jw hi,zDa];rfl) (by
  unfold zTa;simp)
 rw[show((0:Nat):Int)=0 from rfl,K8]at this
 grind[wM]
end
theorem kT{v:List Int}(hl:v.length≤9)(hv:∀i,i<v.length→0≤at0 v i∧at0 v i≤6):f_v v=i7 (enW (nw 0 v)):=by
 unfold f_v;have gj:∀i,(nw 0 (v.take i)).length≤54:=fun i=>by
  have:=zF0 0 (v.take i) (by grind)
  grind
 have:=zY (body:=zSV v) (r:=enW (nw 0 v)) (fun i=>(enW (nw 0 (v.take i)),(i:Int))) v.length (fun i hi=>by
  have hvi:=hv i hi;have hli:=gj i;unfold zSV;simp only
  rw[xJ hi,zN,yW hi,bs];have inner:=zY (body:=zSU (enW (nw 0 (v.take i)),(i:Int)) (at0 v i)) (r:=enW (nw 0 (v.take (i+1)))) (fun k=>(enW (nw 0 (v.take i)++J1 k i),(k:Int))) (at0 v i).toNat (fun k hk=>by
   unfold zSU;simp only
   rw[ic (by omega),zN,zC (by omega) (by omega),bs,yT (by grind),bs,zC (by omega) (by omega),bs,cs]
   congr 3
   rw[Lu,←Jc];simp) (by
   unfold zSU;simp only
   rw[ib (by omega),zS,zJG hi])
  rw[show((0:Nat):Int)=0 from rfl,Hk,Je]at inner
  grind[zC]) (by
  unfold zSV;simp)
 rw[show((0:Nat):Int)=0 from rfl,K8]at this;simp only[nw,enW,Gv]at this
 grind
theorem zMV{v o:Int}(h:zUI 1 (IntKind.wrap .u64 o)=i7 (0,o)):zUI (IntKind.wrap .u64 (([v]:List Int).length:Int)) (IntKind.wrap .u64 o)=i7 (0,o):=by rw[show IntKind.wrap .u64 (([v]:List Int).length:Int)=1 from by rfl];exact h
theorem zC9{v o:Int}(ho:Prime o):f_k [v] o=i7 (J1 o.toNat v):=by
 unfold f_k;rcases ho with rfl|rfl|rfl|rfl
 ·have h:=zY (body:=kW) (r:=[v,v]) (fun i=>match i with|0=>([v,0],1)|_=>([v,v],2)) 1 (fun i hi=>by
   match i,hi with
   |0,_=>rfl) (by rfl)
  rw[zMV (by rfl),bs];have hl:xF (IntKind.wrap .i64 2)=i7 2:=by rfl
  simp only[hl,bs];rw[show decide ((2:Int)<0)=ia from rfl,zS,show decide ((0:Int)> 0)=ia from rfl,zS,show decide ((2:Int)> 9223372036854775807)=ia from by decide,zS]
  grind[wP]
 ·have h:=zY (body:=kW) (r:=[v,v,v]) (fun i=>match i with|0=>([v,0,0],1)|1=>([v,v,0],2)|_=>([v,v,v],3)) 2 (fun i hi=>by
   match i,hi with
   |0,_=>rfl
   |1,_=>rfl) (by rfl)
  rw[zMV (by rfl),bs];have hl:xF (IntKind.wrap .i64 3)=i7 3:=by rfl
  simp only[hl,bs];rw[show decide ((3:Int)<0)=ia from rfl,zS,show decide ((0:Int)> 0)=ia from rfl,zS,show decide ((3:Int)> 9223372036854775807)=ia from by decide,zS]
  grind[wP]
 ·have h:=zY (body:=kW) (r:=[v,v,v,v,v]) (fun i=>match i with|0=>([v,0,0,0,0],1)|1=>([v,v,0,0,0],2)|2=>([v,v,v,v,0],4)|_=>([v,v,v,v,v],5)) 3 (fun i hi=>by
   match i,hi with
   |0,_=>rfl
   |1,_=>simp[kW,yB,wP,rng,inR]
   |2,_=>rfl) (by rfl)
  rw[zMV (by rfl),bs];have hl:xF (IntKind.wrap .i64 5)=i7 5:=by rfl
  simp only[hl,bs];rw[show decide ((5:Int)<0)=ia from rfl,zS,show decide ((0:Int)> 0)=ia from rfl,zS,show decide ((5:Int)> 9223372036854775807)=ia from by decide,zS];have e2:wP (J1 5 (0:Int)) 0 (([v]:List Int).take ((J1 5 (0:Int)).length-0))=[v,0,0,0,0]:=by rfl
  grind
 ·have h:=zY (body:=kW) (r:=[v,v,v,v,v,v,v]) (fun i=>match i with|0=>([v,0,0,0,0,0,0],1)|1=>([v,v,0,0,0,0,0],2)|2=>([v,v,v,v,0,0,0],4)|_=>([v,v,v,v,v,v,v],7)) 3 (fun i hi=>by
   match i,hi with
   |0,_=>rfl
   |1,_=>simp[kW,yB,wP,rng,inR]
   |2,_=>rfl) (by rfl)
  rw[zMV (by rfl),bs];have hl:xF (IntKind.wrap .i64 7)=i7 7:=by rfl
  simp only[hl,bs];rw[show decide ((7:Int)<0)=ia from rfl,zS,show decide ((0:Int)> 0)=ia from rfl,zS,show decide ((7:Int)> 9223372036854775807)=ia from by decide,zS];have e2:wP (J1 7 (0:Int)) 0 (([v]:List Int).take ((J1 7 (0:Int)).length-0))=[v,0,0,0,0,0,0]:=by rfl
  simp_all
end Go.Pl

namespace Go.Pl
open Go Go.Ab Go.Wk Go.Pc
theorem IsB.b{o:Option Bool}{P:Prop}(h:IsB o P):IsB (o.bind fun r=>i7 r) P:=by grind
theorem zLz{p:Int}{D:Nat}{r:List Int}(hp:Prime p)(hD:D≤8):IsB (zUG r p (D:Int)) (Row p D r):=by
 have h7:=hp.pos;unfold zUG
 by_cases h:r.length=D
 ·rw[zAb (by omega),zS]
  refine(kS r.length (fun i=>0≤at0 r i∧at0 r i≤p-1) rfl (fun i hi _=>?_) ?_).iff ⟨fun g=>⟨h,by grind⟩,fun g=>by rw[h];exact g.2⟩
  ·refine tL (kJ _ _ _) (by omega) ?_
   unfold zOY;rw[xJ hi,zN,yW hi,bs,zC (by omega) (by omega),bs]
  ·unfold zOY
   simp
 ·rw[zAc (by omega),zN]
  exact .inr ⟨rfl,fun g=>h g.1⟩
theorem zL0{p:Int}{D:Nat}{r:List Int}(hp:Prime p)(hD:D≤8):IsB (zU9 p (D:Int) r) (Row p D r):=by
 have h7:=hp.pos;unfold zU9
 by_cases h:r.length=D
 ·rw[zAb (by omega),zS]
  refine(kS r.length (fun i=>0≤at0 r i∧at0 r i≤p-1) rfl (fun i hi _=>?_) ?_).iff ⟨fun g=>⟨h,by grind⟩,fun g=>by rw[h];exact g.2⟩
  ·refine tL (zCy _ _ _) (by omega) ?_
   unfold zOV;rw[xJ hi,zN,yW hi,bs,zC (by omega) (by omega),bs]
  ·unfold zOV
   simp
 ·rw[zAc (by omega),zN]
  exact .inr ⟨rfl,fun g=>h g.1⟩
theorem zPt{p:Int}{D:Nat}{B:Mx}(hp:Prime p)(hD:D≤8):IsB (zUA p (D:Int) B) (Mat p D B):=by
 unfold zUA
 by_cases h:B.length=D
 ·rw[zAb (by omega),zS]
  refine(kS B.length (fun i=>Row p D (B.getD i [])) rfl (fun i hi _=>?_) ?_).iff ⟨fun g=>⟨h,by grind⟩,fun g=>by rw[h];exact g.2⟩
  ·refine tL (zL0 hp hD) (by omega) ?_
   unfold zOW;rw[xJ hi,zN,yX [] hi,bs]
  ·unfold zOW
   simp
 ·rw[zAc (by omega),zN]
  exact .inr ⟨rfl,fun g=>h g.1⟩
theorem zIm{p:Int}{D:Nat}{B:Mx}(hp:Prime p)(hD:D≤8)(hB:B.length=D):IsB (zUH (zU.mk p (D:Int) B)) (Mat p D B):=by
 unfold zUH;simp only
 rcases zBB p with⟨h1,_⟩|⟨_,h2⟩
 ·rw[h1,bs,K7,zS]
  rcases kJ (D:Int) 0 8 with⟨h3,_⟩|⟨_,h4⟩
  ·rw[h3,bs,K7,zS,ib (by omega),zS]
   refine(kS (body:=zMd (zU.mk p (D:Int) B)) D (fun i=>Row p D (B.getD i [])) rfl (fun i hi _=>?_) ?_).iff ⟨fun g=>⟨hB,g⟩,fun g=>g.2⟩
   ·refine tL (zLz hp hD) (by omega) ?_
    unfold zMd;simp only
    rw[hB,xJ hi,zN,yX [] (by omega),bs]
   ·unfold zMd
    grind
  omega
 grind
theorem zH8{A B:Mx}(hA:A.length≤1000)(h:∀r∈A,r.length≤1000):zUB A B=i7 (A==B):=
 zIM (t:=f_W) (body:=zS9 A B) rfl (fun _=>rfl) (by omega) (by grind[zPr])
theorem zIn{A B:Mx}(hA:A.length≤1000)(h:∀r∈A,r.length≤1000):zUK A B=i7 (A==B):=by unfold zUK;rw[zIM (f:=zXv A B) (t:=f_R) (body:=zTb A B) rfl (fun _=>rfl) (by omega) (by grind[zDP]),bs]
theorem Mat.small{p:Int}{D:Nat}{A:Mx}(h:Mat p D A)(hD:D≤8):A.length≤1000∧ ∀r∈A,r.length≤1000:=by
 refine⟨by have:=h.1;omega,fun r hr=>?_⟩;obtain⟨i,hi,rfl⟩:=L6.1 hr;have:=h.2 i (by rw[←h.1];exact hi);rw[J2,J4 hi]at this;have:=this.1
 grind
def zDS(x:SPr)(m:zE)(D:Nat):Prop:=
 ∀i,i<x.zA.length→wM m.Prime D m.zH (J1 (at0 x.zA i).toNat i) (idM D)=wM m.Prime D m.zH (nw 0 (x.zT.getD i [])) (idM D)∧
  ∀j,i+1≤j→j<x.zA.length→PM m.Prime D (m.zH.getD j []) (m.zH.getD i [])=PM m.Prime D (m.zH.getD i []) (wM m.Prime D m.zH (nw 0 ((x.zF.getD i []).getD (j-(i+1)) [])) (idM D))
theorem qX{x:SPr}{v:List Int}{i:Nat}(ho:Os x.zA)(h:Exp x.zA v i):v.length=x.zA.length∧ ∀j,j<x.zA.length→0≤at0 v j∧at0 v j≤6:=by have h1:=h.1.1;refine⟨h1,fun j hj=>?_⟩;have:=h.1.2 j (by omega);have:=(ho.2 j hj).pos;omega
section
variable {x:SPr}{m:zE}{D:Nat} (h:Pres x) (hm:MOk x.zA.length m D)
 include h hm
theorem zPu{i:Nat}(hi:i<x.zA.length):(x.zT.getD i []).length=x.zA.length∧ ∀j,j<x.zA.length→0≤at0 (x.zT.getD i []) j∧at0 (x.zT.getD i []) j≤6:=have _:=hm;qX h.os (h.tl i hi).1
theorem zMW{i j:Nat}(hi:i<x.zA.length)(hj:j<(x.zF.getD i []).length):((x.zF.getD i []).getD j []).length=x.zA.length∧ ∀q,q<x.zA.length→0≤at0 ((x.zF.getD i []).getD j []) q∧at0 ((x.zF.getD i []).getD j []) q≤6:=have _:=hm;qX h.os ((h.tl i hi).2.2 j hj)
theorem zPv:IsB ((zJ (zSD x m) 0).bind fun r=>match r with|.inl _=>i7 i9|.inr r=>i7 r) (zDS x m D):=by
 have h6:=h.os.1;have h7:=hm.p.pos;have h3:=hm.d3;have gj:=hm.len;refine kS x.zA.length (fun i=>wM m.Prime D m.zH (J1 (at0 x.zA i).toNat i) (idM D)=wM m.Prime D m.zH (nw 0 (x.zT.getD i [])) (idM D)∧
  ∀j,i+1≤j→j<x.zA.length→PM m.Prime D (m.zH.getD j []) (m.zH.getD i [])=PM m.Prime D (m.zH.getD i []) (wM m.Prime D m.zH (nw 0 ((x.zF.getD i []).getD (j-(i+1)) [])) (idM D))) rfl (fun i hi _=>?_) ?_
 ·have cd:=(h.os.2 i hi).pos
  have po:=h.pl;have gE:=h.cl;obtain⟨p1,p2⟩:=zPu h hm hi;have t2:=(h.tl i hi).2.1;have hI:=tM (p:=m.Prime) (D:=D) h7.1;unfold zSD;rw[xJ hi,zN,hm.d,zH5 hm.p (by omega),bs];rw[vQ (S:=Mat m.Prime D) (body:=zSB x m (i:Int)) (fun B=>B) (fun B=>PM m.Prime D B (m.zH.getD i [])) (at0 x.zA i) (by omega) (fun B hB=>zBE (by omega) hB.1) (fun B q hB hq=>by
   unfold zSB;simp only
   rw[yW hi,bs,ic hq,zN,yX [] (by omega),bs,hm.d,kE hm.p (by omega) hB (hm.mat i hi),bs,zC (by omega) (by omega),bs,cs]) (fun B hB=>by
   unfold zSB;simp only
   rw[yW hi,bs,ib (by omega),zS]) hI,bs,yX [] (by omega),bs,zLy hm (by omega) p1 p2,bs,←zH6]
  have hs:=(zBG (p:=m.Prime) (D:=D) (A:=m.zH) (by omega) (J1 (at0 x.zA i).toNat i) hI).small (by omega);rw[zH8 hs.1 hs.2,bs]
  by_cases hq:wM m.Prime D m.zH (J1 (at0 x.zA i).toNat i) (idM D)=wM m.Prime D m.zH (nw 0 (x.zT.getD i [])) (idM D)
  ·rw[show(wM m.Prime D m.zH (J1 (at0 x.zA i).toNat i) (idM D)==wM m.Prime D m.zH (nw 0 (x.zT.getD i [])) (idM D))=i9 from by grind,K7,zS,zC (by omega) (by omega),bs,cs]
   rcases chk (body:=zSC x m (i:Int)) x.zA.length (i+1) (by omega) (fun j=>PM m.Prime D (m.zH.getD j []) (m.zH.getD i [])=PM m.Prime D (m.zH.getD i []) (wM m.Prime D m.zH (nw 0 ((x.zF.getD i []).getD (j-(i+1)) [])) (idM D))) (fun _=>ia) (fun j h1 h2 _=>by
     obtain⟨c1,c2⟩:=zMW h hm (j:=j-(i+1)) hi (by omega);have hjm:=hm.mat j h2;have him:=hm.mat i hi;have hw:=zBG (p:=m.Prime) (D:=D) (A:=m.zH) (by omega) (nw 0 ((x.zF.getD i []).getD (j-(i+1)) [])) hI;have hs:=(zBE (p:=m.Prime) (B:=m.zH.getD i []) (by omega) hjm.1).small (by omega);refine tL (o:=i7 (PM m.Prime D (m.zH.getD j []) (m.zH.getD i [])==PM m.Prime D (m.zH.getD i []) (wM m.Prime D m.zH (nw 0 ((x.zF.getD i []).getD (j-(i+1)) [])) (idM D)))) (IsB.of_bool (by simp)) (by omega) ?_;unfold zSC;rw[xJ h2,zN,yX (i:=j) [] (by omega),bs,yX (i:=i) [] (by omega),bs,hm.d,kE hm.p (by omega) hjm him,bs,bs,yX (i:=i) [] (by omega),bs,zC (by omega) (by omega),bs,zC (by omega) (by omega),bs,show(j:Int)-(i:Int)-1=((j-(i+1):Nat):Int)from by omega,yX [] (by omega),bs,zLy hm (by omega) c1 c2,bs,kE hm.p (by omega) him hw,bs,zH8 hs.1 hs.2]) (by
     unfold zSC;simp)with⟨g1,g2⟩|⟨j,j1,j2,g1,g2⟩
   ·grind
   ·right
    rw[g1,bs]
    grind
  grind
 ·unfold zSD
  simp
end
def zV3(x:SPr)(m:zE):Prop:=zDQ x∧ ∃D,MOk x.zA.length m D∧zDS x m D
theorem zIo{x:SPr}{m:zE}(hl:x.zA.length≤1048576):IsB (zUC x m) (zV3 x m):=by
 unfold zUC;rcases zMT hl with⟨h1,h2⟩|⟨h1,h2⟩
 ·have h6:=h2.1.os.1
  rw[h1,bs,zN];unfold f_s;rcases zHv m.Prime with⟨p1,p2⟩|⟨p1,p2⟩
  ·rw[p1,bs,K7,zS]
   rcases zCy m.Dim 1 3 with⟨d1,d2⟩|⟨d1,d2⟩
   ·rw[d1,bs,K7,zS]
    obtain⟨D,hD⟩:∃D:Nat,m.Dim=(D:Int):=⟨m.Dim.toNat,by omega⟩
    by_cases gj:m.zH.length=x.zA.length
    ·rw[zAb (by omega),zS]
     rcases chk (body:=zSA x m) x.zA.length 0 (Km _) (fun i=>Mat m.Prime D (m.zH.getD i [])) (fun _=>ia) (fun i _ hi _=>by
       refine tL (zPt p2 (D:=D) (by omega)) (by omega) ?_;unfold zSA;rw[xJ hi,zN,yX [] (by omega),bs,hD]) (by
       unfold zSA;simp)with⟨g1,g2⟩|⟨i,_,hi,g1,g2⟩
     ·rw[show((0:Nat):Int)=0 from rfl]at g1
      have hm:MOk x.zA.length m D:=⟨p2,hD,by omega,by omega,gj,by grind⟩;rw[g1,bs];refine(zPv h2.1 hm).b.iff ⟨fun k2=>⟨h2,D,hm,k2⟩,fun⟨_,D',gC,hr⟩=>?_⟩;have:D'=D:=by have:=gC.d;omega
      grind
     ·rw[show((0:Nat):Int)=0 from rfl]at g1
      rw[g1,bs];refine .inr ⟨rfl,fun⟨_,D',gC,_⟩=>g2 ?_⟩;have:D'=D:=by have:=gC.d;omega
      rw[←this];exact gC.mat i hi
    ·rw[zAc (by omega),zN]
     exact .inr ⟨rfl,fun⟨_,D',gC,_⟩=>gj gC.len⟩
   ·rw[d1,bs,Kr,zN]
    exact .inr ⟨rfl,fun⟨_,D',gC,_⟩=>d2 (by have:=gC.d;have:=gC.d1;have:=gC.d3;omega)⟩
  ·rw[p1,bs,Kr,zN]
   exact .inr ⟨rfl,fun⟨_,D',gC,_⟩=>p2 gC.p⟩
 ·rw[h1,bs,zS]
  exact .inr ⟨rfl,fun g=>h2 g.1⟩
end Go.Pl

namespace Go.Pl
open Go Go.Ab Go.Wk Go.Pc
abbrev Rl:=List Nat×List Nat
def r1(x:SPr)(i:Nat):Rl:=(J1 (at0 x.zA i).toNat i,nw 0 (x.zT.getD i []))
def r2(x:SPr)(i j:Nat):Rl:=([i+j+1,i],i::nw 0 ((x.zF.getD i []).getD j []))
def R2(x:SPr)(i:Nat):List Rl:=(Jg (x.zF.getD i []).length).map (r2 x i)
def wV(x:SPr):List Rl:=(Jg x.zA.length).map (r1 x)++(Jg x.zA.length).flatMap (R2 x)
abbrev enR(q:Rl):List Int×List Int:=(enW q.1,enW q.2)
section
variable {x:SPr} (h:Pres x)
 include h
theorem zWE{i:Nat}(hi:i<x.zA.length):(R2 x i).length≤9:=by
 have:=(h.tl i hi).2.1;have:=h.os.1
 grind[R2]
theorem zH9:∀i,i≤x.zA.length→((Jg i).flatMap (R2 x)).length≤9*i
 |0,_=>by simp
 |i+1,hi=>by
  have:=zH9 i (by omega)
  grind[zWE,Lp]
theorem zUg{k i:Nat}:enW (J1 k i)=J1 k ((i:Int)+1):=by have _:=h;simp
theorem zA2:f_z x=i7 ((wV x).map enR):=by
 have h6:=h.os.1;have po:=h.pl;have gE:=h.cl;unfold f_z;have l1:=zY (body:=zSW x) (r:=((Jg x.zA.length).map (r1 x)).map enR) (fun i=>(((Jg i).map (r1 x)).map enR,(i:Int))) x.zA.length (fun i hi=>by
  obtain⟨p1,p2⟩:=qX h.os (h.tl i hi).1;unfold zSW;simp only
  rw[xJ hi,zN,yW hi,bs,zC (by omega) (by omega),bs,zC9 (h.os.2 i hi),bs,yX [] (by omega),bs,kT (by omega) (by rw[p1];exact p2),bs,yT (by simp only[Jh,Li,J7,Jx];omega),bs,bs,cs,Lp];simp only[L7,Jo,Gv,r1,enR,zUg h,cs]) (by
  unfold zSW;simp)
 rw[show((0:Nat):Int)=0 from rfl]at l1;simp only[List.range_zero,Gv]at l1;rw[l1,bs];have l3:=zY (body:=zSY x) (r:=(wV x).map enR) (fun i=>(((Jg x.zA.length).map (r1 x)++(Jg i).flatMap (R2 x)).map enR,(i:Int))) x.zA.length (fun i hi=>by
  have t2:=(h.tl i hi).2.1;have aW:=zH9 h i (by omega);unfold zSY;simp only
  rw[xJ hi,zN,yX [] (by omega),bs];have l2:=zY (body:=zSX (((Jg x.zA.length).map (r1 x)++(Jg i).flatMap (R2 x)).map enR,(i:Int)) (x.zF.getD i [])) (r:=((Jg x.zA.length).map (r1 x)++(Jg (i+1)).flatMap (R2 x)).map enR)
   (fun j=>(((Jg x.zA.length).map (r1 x)++(Jg i).flatMap (R2 x)++(Jg j).map (r2 x i)).map enR,(j:Int))) (x.zF.getD i []).length (fun j hj=>by
    obtain⟨p1,p2⟩:=qX h.os ((h.tl i hi).2.2 j hj);have px:=zF0 0 ((x.zF.getD i []).getD j []) (by grind);unfold zSX;simp only
    rw[xJ hj,zN,yX [] hj,bs,zC (by omega) (by omega),bs,zC (by omega) (by omega),bs,zC (by omega) (by omega),bs,kT (by omega) (by rw[p1];exact p2),bs,yT (by simp only[Jh,J7,Jx];omega),bs,yT (by simp only[Jh,J6,Li,J7,Jx];omega),bs,zC (by omega) (by omega),bs,cs,Lp];have e1:(i:Int)+(j:Int)+2=((i+j+1:Nat):Int)+1:=by omega
    simp only[L7,Jo,Gv,r2,enR,enW,Jc,H1,e1];rfl) (by
    unfold zSX;simp only
    rw[uH,zS,Lp,Qk]
    grind[R2])
  rw[show((0:Nat):Int)=0 from rfl]at l2
  grind[zC]) (by
  unfold zSY;simp only
  rw[uH,zS];rfl)
 grind
theorem zIX{q:Rl}(hq:q∈wV x):((∀w∈q.1,w<x.zA.length)∧q.1.length≤1000)∧(∀w∈q.2,w<x.zA.length)∧q.2.length≤1000:=by
 have h6:=h.os.1;simp only[wV,Jd,Jm,Kq,Lw,R2]at hq;rcases hq with⟨i,hi,rfl⟩|⟨i,hi,j,hj,rfl⟩
 ·obtain⟨p1,p2⟩:=qX h.os (h.tl i hi).1
  have px:=zF0 0 (x.zT.getD i []) (by rw[p1];exact fun i hi=>(p2 i hi).2);have cd:=(h.os.2 i hi).pos;refine⟨⟨fun w hw=>?_,?_⟩,fun w hw=>zLx 0 _ (by omega) w hw,by simp only[r1];omega⟩
  ·have:=Kb hw;omega
  ·simp only[r1,Jf];omega
 ·obtain⟨p1,p2⟩:=qX h.os ((h.tl i hi).2.2 j hj)
  have t2:=(h.tl i hi).2.1;have px:=zF0 0 ((x.zF.getD i []).getD j []) (by rw[p1];exact fun i hi=>(p2 i hi).2);refine⟨⟨fun w hw=>?_,by simp[r2]⟩,fun w hw=>?_,by simp only[r2,J7];omega⟩
  ·simp only[r2,J8,Jar,or_false]at hw;omega
  ·simp only[r2,J8]at hw
   rcases hw with rfl|hw
   ·exact hi
   ·exact zLx 0 _ (by omega) w hw
variable {m:zE}{D:Nat} (hm:MOk x.zA.length m D)
 include hm
theorem zL1:(∀q∈wV x,wM m.Prime D m.zH q.1 (idM D)=wM m.Prime D m.zH q.2 (idM D))↔zDS x m D:=by
 have h7:=hm.p.pos;have hI:=tM (p:=m.Prime) (D:=D) h7.1;have key:∀i j,i<x.zA.length→j<x.zA.length→ ∀ws,(wM m.Prime D m.zH [j,i] (idM D)=wM m.Prime D m.zH (i::ws) (idM D)↔PM m.Prime D (m.zH.getD j []) (m.zH.getD i [])=PM m.Prime D (m.zH.getD i []) (wM m.Prime D m.zH ws (idM D))):=fun i j hi hj ws=>by
  have fq:=hm.mat i hi;have b7:=hm.mat j hj;have e1:wM m.Prime D m.zH [j,i] (idM D)=PM m.Prime D (m.zH.getD j []) (m.zH.getD i []):=by show PM _ _ (PM _ _ (idM D) _) _=_;rw[zBF b7]
  have e2:wM m.Prime D m.zH (i::ws) (idM D)=PM m.Prime D (m.zH.getD i []) (wM m.Prime D m.zH ws (idM D)):=by show wM _ _ _ ws (PM _ _ (idM D) _)=_;rw[zBF fq,←zH7 (by omega) fq.1 ws hI,zC8 fq]
  rw[e1,e2]
 constructor
 ·intro g i hi
  have t2:=(h.tl i hi).2.1;refine⟨g (r1 x i) (by simp only[wV,Jd,Jm,Kq];grind),fun j h1 h2=>?_⟩;have:=g (r2 x i (j-(i+1))) (by
   simp only[wV,Jd,Lw,Kq,R2,Jm]
   grind)
  simp only[r2]at this;rw[show i+(j-(i+1))+1=j from by omega]at this
  grind
 ·intro g q hq
  simp only[wV,Jd,Jm,Kq,Lw,R2]at hq;rcases hq with⟨i,hi,rfl⟩|⟨i,hi,j,hj,rfl⟩
  ·exact(g i hi).1
  ·have t2:=(h.tl i hi).2.1
   have:=(g i hi).2 (i+j+1) (by omega) (by omega);rw[show i+j+1-(i+1)=j from by omega]at this;exact(key i (i+j+1) hi (by omega) _).2 this
theorem zPw:IsB ((zJ (zTd m ((wV x).map enR)) 0).bind fun r=>match r with|.inl _=>i7 i9|.inr r=>i7 r) (zDS x m D):=by
 have h6:=h.os.1;have h7:=hm.p.pos;have h3:=hm.d3;have hI:=tM (p:=m.Prime) (D:=D) h7.1;have aW:=zH9 h x.zA.length (Ji _);have fU:(wV x).length≤1000:=by simp only[wV,J6,Jh,Li];omega
 refine(kS (wV x).length (fun k=>wM m.Prime D m.zH ((wV x).getD k ([],[])).1 (idM D)=wM m.Prime D m.zH ((wV x).getD k ([],[])).2 (idM D)) rfl (fun k hk _=>?_) ?_).iff ⟨fun g=>(zL1 h hm).1 fun q hq=>?_,fun g k hk=>(zL1 h hm).2 g _ ?_⟩
 ·have gp:(wV x).getD k ([],[])∈wV x:=by
   rw[J2,J4 hk];exact K9 hk
  obtain⟨⟨g1,g2⟩,g3,g4⟩:=zIX h gp;have hs:=(zBG (p:=m.Prime) (D:=D) (A:=m.zH) (by omega) ((wV x).getD k ([],[])).1 hI).small (by omega);refine tL (o:=i7 (wM m.Prime D m.zH ((wV x).getD k ([],[])).1 (idM D)==wM m.Prime D m.zH ((wV x).getD k ([],[])).2 (idM D))) (IsB.of_bool (by rw[beq_iff_eq])) (by omega) ?_;unfold zTd;rw[Jh,xJ hk,zN,vT,K0,J4 hk];rw[J2,J4 hk]at g1 g2 g3 g4 hs ⊢
  simp only[H0,Q8]at g1 g2 g3 g4 hs ⊢
  rw[bs,zAV hm h6 g1 (H8 g2 (by omega)),bs,zAV hm h6 g3 (H8 g4 (by omega)),bs];simp only
  rw[zIn hs.1 hs.2]
 ·unfold zTd
  rw[Jh,uH,zS]
 ·obtain⟨k,hk,rfl⟩:=L6.1 hq
  have:=g k hk;rw[J2,J4 hk]at this;exact this
 ·rw[J2,J4 hk];exact K9 hk
end
theorem zIp{x:SPr}{m:zE}(hl:x.zA.length≤1048576)(_hal:m.zH.length≤1048576):IsB (f_F x m) (zV3 x m):=by
 unfold f_F;rcases zE7 hl with⟨h1,h2⟩|⟨h1,h2⟩
 ·have h6:=h2.1.os.1
  rw[h1,bs,K7,zS];rcases zBB m.Prime with⟨p1,p2⟩|⟨p1,p2⟩
  ·rw[p1,bs,K7,zS]
   rcases kJ m.Dim 1 3 with⟨d1,d2⟩|⟨d1,d2⟩
   ·rw[d1,bs,K7,zS]
    obtain⟨D,hD⟩:∃D:Nat,m.Dim=(D:Int):=⟨m.Dim.toNat,by omega⟩
    by_cases gj:m.zH.length=x.zA.length
    ·rw[zAb (by omega),zS]
     rcases chk (body:=zTc m) m.zH.length 0 (Km _) (fun i=>Mat m.Prime D (m.zH.getD i [])) (fun _=>ia) (fun i _ hi _=>by
       unfold zTc;rw[xJ hi,zN,yX [] hi,bs,hD]
       by_cases hr:(m.zH.getD i []).length=D
       ·rw[zAb (by omega),zS]
        refine tL (zIm p2 (D:=D) (by omega) hr) (by omega) ?_
        grind[zN1,yX]
       ·rw[zAc (by omega),zN]
        exact .inr ⟨rfl,fun g=>hr g.1⟩) (by
       unfold zTc;simp)with⟨g1,g2⟩|⟨i,_,hi,g1,g2⟩
     ·rw[show((0:Nat):Int)=0 from rfl]at g1
      have hm:MOk x.zA.length m D:=⟨p2,hD,by omega,by omega,gj,by grind⟩;rw[g1,bs,zA2 h2.1];simp only
      rw[bs];refine(zPw h2.1 hm).iff ⟨fun k2=>⟨h2,D,hm,k2⟩,fun⟨_,D',gC,hr⟩=>?_⟩;have:D'=D:=by have:=gC.d;omega
      grind
     ·rw[show((0:Nat):Int)=0 from rfl]at g1
      rw[g1,bs];refine .inr ⟨rfl,fun⟨_,D',gC,_⟩=>g2 ?_⟩;have:D'=D:=by have:=gC.d;omega
      rw[←this];exact gC.mat i (by omega)
    ·rw[zAc (by omega),zN]
     exact .inr ⟨rfl,fun⟨_,D',gC,_⟩=>gj gC.len⟩
   ·rw[d1,bs,Kr,zN]
    exact .inr ⟨rfl,fun⟨_,D',gC,_⟩=>d2 (by have:=gC.d;have:=gC.d1;have:=gC.d3;omega)⟩
  ·rw[p1,bs,Kr,zN]
   exact .inr ⟨rfl,fun⟨_,D',gC,_⟩=>p2 gC.p⟩
 ·rw[h1,bs,Kr,zN]
  exact .inr ⟨rfl,fun g=>h2 g.1⟩
end Go.Pl

namespace Go.Pl
open Go Go.Ab Go.Wk Go.Pc
theorem zF1{xs:List (List Int)}{i:Nat}(h:i<xs.length):(xs.take (i+1)).flatten=(xs.take i).flatten++xs.getD i []:=by grind[Jw]
theorem zJH{xs:List (List Int)}(i:Nat):(xs.take i).flatten.length≤xs.flatten.length:=by grind[Jb0]
theorem zPx{k:Nat}(hk:k≤1000000):zTe (k:Int)=i7 []:=by
 unfold zTe;rw[ib (by omega),zS,zC (by decide) (by decide),bs,zC (by omega) (by omega),bs]
 by_cases h:(k:Int)-(0-0)> 0
 ·rw[ic h,zN]
  have e:uI ([]:List Int) ((k:Int)-(0-0)) 0=i7 (J1 k 0):=by
   unfold uI
   grind
  rw[e,bs];rfl
 grind
theorem zCA{xs:List (List Int)}(hx:xs.length≤1000)(hf:xs.flatten.length≤1000000):f_A xs=i7 xs.flatten:=by
 unfold f_A;have l1:=zY (body:=zTf xs) (r:=((xs.flatten.length:Nat):Int)) (fun i=>((((xs.take i).flatten.length:Nat):Int),(i:Int))) xs.length (fun i hi=>by
  have h1:=zF1 hi;have h2:=zJH (xs:=xs) (i+1);have h3:=congrArg Jba h1;rw[J6]at h3;unfold zTf;simp only
  rw[xJ hi,zN,yX [] hi,bs,zC (by omega) (by omega),bs,ib (by omega),zS,zC (by omega) (by omega),bs,cs,h3]
  congr 3) (by
  unfold zTf;simp)
 rw[show((0:Nat):Int)=0 from rfl]at l1;simp only[K8,Ht,Jx]at l1;rw[show((0:Nat):Int)=0 from rfl]at l1;rw[l1,bs,zPx hf,bs];have l2:=zY (body:=zTg xs) (r:=xs.flatten) (fun i=>((xs.take i).flatten,(i:Int))) xs.length (fun i hi=>by
  have h1:=zF1 hi;have h2:=zJH (xs:=xs) (i+1);have h3:=congrArg Jba h1;rw[J6]at h3;unfold zTg;simp only
  rw[xJ hi,zN,yX [] hi,bs,yT (by omega),bs,zC (by omega) (by omega),bs,cs,h1]) (by
  unfold zTg;simp)
 grind
end Go.Pl

namespace Go.Pl
open Go Go.Ab Go.Wk Go.Pc
section
variable {p:Int}
def tN(p:Int)(D:Nat)(r:List Int)(k:Int)(s:List Int):List Int:=mkv D fun j=>(at0 r j+k*at0 s j)%p
theorem zR2{D:Nat}{r s:List Int}{k:Int}:(tN p D r k s).length=D:=yA _ _
def zIq(p:Int)(D i:Nat)(r:List Int)(k:Int)(s:List Int):List Int:=mkv D fun j=>if j<i then(at0 r j+k*at0 s j)%p else at0 r j
theorem zIY{D:Nat}{r s:List Int}{k:Int}(hr:r.length=D):zIq p D 0 r k s=r:=by
 conv=>rhs;rw[uA hr]
 exact yC fun j _=>by rw[if_neg (by omega)]
theorem zIZ{D:Nat}{r s:List Int}{k:Int}:zIq p D D r k s=tN p D r k s:=yC fun j hj=>by rw[if_pos hj]
theorem zL2{D i:Nat}{r s:List Int}{k a:Int}(ha:a=(at0 r i+k*at0 s i)%p):(zIq p D i r k s).set i a=zIq p D (i+1) r k s:=by
 simp only[zIq];rw[jC];refine yC fun j _=>?_
 by_cases h:j=i
 ·subst h;rw[if_pos rfl,if_pos (by omega),ha]
 ·rw[if_neg h]
  by_cases h2:j<i
  ·rw[if_pos h2,if_pos (by omega)]
  ·rw[if_neg h2,if_neg (by omega)]
theorem zO0{D i:Nat}{r s:List Int}{k:Int}(hi:i<D):at0 (zIq p D i r k s) i=at0 r i:=by rw[zIq,yG hi,if_neg (by omega)]
theorem zE8{D i:Nat}{r s:List Int}{k:Int}:(zIq p D i r k s).length=D:=yA _ _
end
section
variable {p:Int} (hp:Prime p)
 include hp
theorem zL3{a:Int}(_h0:-1000≤a)(_h1:a≤1000):zKm a p=i7 (a%p):=by
 have h7:=hp.pos;have e1:=Jb2 a (show 0<p by omega);have e2:=Jb3 a (show 0<p by omega);have e3:(Jbn a p+p)%p=a%p:=by
  rw[U0];have:=Jai a p
  conv=>rhs;rw[←this]
  rw[Ln]
 unfold zKm uU;rw[if_neg (by omega),bs,zC (by omega) (by omega),bs,if_neg (by omega),bs,Kw (by omega),e3]
theorem zL4{a:Int}(_h0:-1000≤a)(_h1:a≤1000):zTm a p=i7 (a%p):=by
 have h7:=hp.pos;have e1:=Jb2 a (show 0<p by omega);have e2:=Jb3 a (show 0<p by omega);have e3:(Jbn a p+p)%p=a%p:=by
  rw[U0];have:=Jai a p
  conv=>rhs;rw[←this]
  rw[Ln]
 unfold zTm uU;rw[if_neg (by omega),bs]
 by_cases h:Jbn a p<0
 ·rw[ic h,zN,zC (by omega) (by omega),bs,←e3,K5 (by omega) (by omega)]
 ·rw[ib h,zS,←e3,U0,K5 (by omega) (by omega)]
theorem zA3{D:Nat}{r s:List Int}{k:Int}:Row p D (tN p D r k s):=by have h7:=hp.pos;refine⟨yA _ _,fun i hi=>?_⟩;have e:at0 (tN p D r k s) i=(at0 r i+k*at0 s i)%p:=yG hi;have e1:=Kx (at0 r i+k*at0 s i) (show p≠0 by omega);have e2:=Kg (at0 r i+k*at0 s i) (show 0<p by omega);rw[e];omega
theorem zBH{k b:Int}(hk:-7≤k∧k≤7)(hb:0≤b∧b≤p-1):-49≤k*b∧k*b≤49:=by
 have h7:=hp.pos;rcases Int.le_total 0 k with h|h
 ·have h1:=G3 h hb.1
  have h2:=Lm hk.2 (show b≤7 by omega) hb.1 (by omega);omega
 ·have h1:=G3 (show 0≤ -k by omega) hb.1
  have h2:=Lm (show -k≤7 by omega) (show b≤7 by omega) hb.1 (by omega);rw[Int.neg_mul]at h1 h2;omega
theorem zDb{D:Nat}{r s:List Int}{k:Int}(hr:Row p D r)(hs:Row p D s)(hk:-7≤k∧k≤7)(hD:D≤1000000):f_u r s k p=i7 (tN p D r k s):=by
 have h7:=hp.pos;have:=zY (body:=zMe r s k p) (r:=tN p D r k s) (fun i=>(zIq p D i r k s,(i:Int))) D (fun i hi=>by
  have a1:=hr.2 i hi;have a2:=hs.2 i hi;have a3:=zBH hp hk a2;unfold zMe;simp only
  rw[hr.1,xJ hi,zN,yW (by rw[zE8];exact hi),bs,yW (by rw[hs.1];exact hi),bs,zC (by omega) (by omega),bs,zO0 hi,zC (by omega) (by omega),bs,zL3 hp (by omega) (by omega),bs,bs,zC (by omega) (by omega),bs,cs,Ja,zL2 rfl]) (by
  unfold zMe;simp only
  rw[hr.1,uH,zS,zIZ])
 rw[show((0:Nat):Int)=0 from rfl,zIY hr.1]at this;unfold f_u;rw[this,bs]
theorem tJ{D:Nat}{r s:List Int}{k:Int}(hr:Row p D r)(hs:Row p D s)(hk:-7≤k∧k≤7)(hD:D≤1000000):f_w p r k s=i7 (tN p D r k s):=by
 have h7:=hp.pos;have:=zY (body:=zTn p k s) (r:=tN p D r k s) (fun i=>(zIq p D i r k s,(i:Int))) D (fun i hi=>by
  have a1:=hr.2 i hi;have a2:=hs.2 i hi;have a3:=zBH hp hk a2;unfold zTn;simp only
  rw[zE8,xJ hi,zN,hs.1,xJ hi,zN,yW (by rw[zE8];exact hi),bs,yW (by rw[hs.1];exact hi),bs,zC (by omega) (by omega),bs,zO0 hi,zC (by omega) (by omega),bs,zL4 hp (by omega) (by omega),bs,bs,zC (by omega) (by omega),bs,cs,Ja,zL2 rfl]) (by
  unfold zTn;simp only
  rw[zE8,uH,zS,zIZ])
 rw[show((0:Nat):Int)=0 from rfl,zIY hr.1]at this;unfold f_w;rw[qL (by rw[hr.1];omega),bs,this,bs]
end
theorem zDT{p:Int}{D:Nat}{r s:List Int}:tN p D r (p-1) s=tN p D r (-1) s:=yC fun j _=>by rw[show at0 r j+(p-1)*at0 s j=at0 r j+ -1*at0 s j+p*at0 s j from by rw[Jan];omega,Ln]
end Go.Pl

namespace Go.Pl
open Go Go.Ab Go.Wk Go.Pc
def VOk(n:Nat)(p:Int)(D:Nat)(vals:Mx):Prop:=vals.length=n∧ ∀i,i<n→Row p D (vals.getD i [])
def stp(m:zE)(D:Nat)(vals:Mx)(v:List Int)(w:Nat):List Int:=tN m.Prime D (wA m.Prime D v (m.zH.getD w [])) 1 (vals.getD w [])
def ev(m:zE)(D:Nat)(vals:Mx)(v:List Int)(ws:List Nat):List Int:=ws.foldl (stp m D vals) v
theorem zJa{m:zE}{D:Nat}{vals:Mx}{v:List Int}{a b:List Nat}:ev m D vals v (a++b)=ev m D vals (ev m D vals v a) b:=by simp[ev,Gm]
theorem zMX{m:zE}{D:Nat}{vals:Mx}{w:Nat}:∀(k:Nat)(v:List Int),ev m D vals v (J1 k w)=iter k (fun v=>stp m D vals v w) v
 |0,_=>rfl
 |k+1,v=>by rw[Jp];show ev m D vals (stp m D vals v w) (J1 k w)=_;rw[zMX k];rfl
abbrev z0(D:Nat):List Int:=J1 D 0
theorem zHA{p:Int}{D:Nat}(hp:0<p):Row p D (z0 D):=by
 refine⟨by simp,fun i hi=>?_⟩
 grind
theorem wX{p:Int}{D:Nat}{r:List Int}{B:Mx}(hp:0<p):Row p D (wA p D r B):=by
 refine⟨yA _ _,fun i hi=>?_⟩;have e1:=Kx (S D (fun l=>at0 r l*ent B l i)) (show p≠0 by omega);have e2:=Kg (S D (fun l=>at0 r l*ent B l i)) hp
 grind[wA,yG]
section
variable {n D:Nat}{m:zE} (hm:MOk n m D) (hn:n≤9) {vals:Mx} (hv:VOk n m.Prime D vals)
 include hm hn hv
theorem zBI{v:List Int}{w:Nat}:Row m.Prime D (stp m D vals v w):=by have _:=hn;have _:=hv;exact zA3 hm.p
theorem zDU{v:List Int}(h:Row m.Prime D v):∀ws,Row m.Prime D (ev m D vals v ws):=by
 intro ws
 induction ws generalizing v with
 |nil=>exact h
 |cons w ws ih=>exact ih (zBI hm hn hv)
theorem zBt{v:List Int}{w:Nat}(h:Row m.Prime D v)(hw:w<n):zMo m vals v (w:Int)=i7 (stp m D vals v w):=by have _:=hn;have h7:=hm.p.pos;have h3:=hm.d3;unfold zMo;rw[yX [] (by rw[hm.len];exact hw),bs,hm.d,zDR hm.p (by omega) h (hm.mat w hw),bs,yX [] (by rw[hv.1];exact hw),bs,tJ hm.p (wX (by omega)) (hv.2 w hw) (by omega) (by omega),bs];rfl
theorem zFW{v x:List Int}(h:Row m.Prime D v)(hl:x.length=n)(hx:∀i,i<n→0≤at0 x i∧at0 x i≤6):f_L m vals v x=i7 (ev m D vals v (nw 0 x)):=by
 have:=zY (body:=zTq m vals x) (r:=ev m D vals v (nw 0 x)) (fun i=>(ev m D vals v (nw 0 (x.take i)),(i:Int))) n (fun i hi=>by
  have aL:=hx i hi;unfold zTq;simp only
  rw[hl,xJ hi,zN];rw[vQ (S:=Row m.Prime D) (body:=zTp m vals x (ev m D vals v (nw 0 (x.take i)),(i:Int))) (fun v=>v) (fun v=>stp m D vals v i) (at0 x i) aL.1 (by grind[zBI]) (fun u q hu hq=>by
   unfold zTp;simp only
   rw[yW (by omega),bs,ic hq,zN,zBt hm hn hv hu hi,bs,zC (by omega) (by omega),bs,cs]) (fun u hu=>by
   unfold zTp;simp only
   rw[yW (by omega),bs,ib (by omega),zS]) (zDU hm hn hv h _),bs,zC (by omega) (by omega),bs,cs]
  grind[zJG,zJa,zMX]) (by
  unfold zTq
  grind)
 rw[show((0:Nat):Int)=0 from rfl,K8]at this
 grind[nw,ev,f_L]
theorem zE9{ws:List Nat}(hw:∀w∈ws,w<n)(hl:ws.length≤1000):zTr m vals (enW ws)=i7 (ev m D vals (z0 D) ws):=by
 have h7:=hm.p.pos;have h3:=hm.d3;unfold zTr;rw[hm.d,xP (by omega),bs];have hz:=zHA (p:=m.Prime) (D:=D) (by omega);have aX:(enW ws).length=ws.length:=by simp
 have:=zY (body:=zMp m vals (enW ws)) (r:=ev m D vals (z0 D) ws) (fun i=>(ev m D vals (z0 D) (ws.take i),(i:Int))) ws.length (fun i hi=>by
  have mu:=hw ws[i] (K9 hi);have hr:=zDU hm hn hv hz (ws.take i);unfold zMp;simp only
  rw[aX,xJ hi,zN,vT,K0,J4 hi];simp only[H0];rw[bs,zC (by omega) (by omega),bs,show((ws[i]:Nat):Int)+1-1=((ws[i]:Nat):Int)from by omega,zD4 hm hn mu,bs,zBs hm.p (by omega) hr (hm.mat _ mu) rfl,bs,bs,yX [] (by rw[hv.1];exact mu),bs,zDb hm.p (wX (by omega)) (hv.2 _ mu) (by omega) (by omega),bs,zC (by omega) (by omega),bs,cs,Jw hi,zJa];rfl) (by
  unfold zMp;simp)
 rw[show((0:Nat):Int)=0 from rfl,K8]at this
 grind[ev]
end
section
variable {x:SPr} (h:Pres x) {m:zE}{D:Nat} (hm:MOk x.zA.length m D) {vals:Mx} (hv:VOk x.zA.length m.Prime D vals)
 include h hm hv
abbrev dfc(m:zE)(D:Nat)(vals:Mx)(q:Rl):List Int:=tN m.Prime D (ev m D vals (z0 D) q.1) (-1) (ev m D vals (z0 D) q.2)
theorem zGp:(wV x).length≤100:=by
 have _:=hv;have _:=hm;have h6:=h.os.1;have aW:=zH9 h x.zA.length (Ji _)
 grind[wV]
theorem zJI:zUW x m vals=i7 ((wV x).map (dfc m D vals)):=by
 have h6:=h.os.1;have h7:=hm.p.pos;have h3:=hm.d3;have fU:=zGp h hm hv;have hz:=zHA (p:=m.Prime) (D:=D) (by omega);unfold zUW;rw[zA2 h,bs];have:=zY (body:=zMq m vals ((wV x).map enR)) (r:=(wV x).map (dfc m D vals)) (fun i=>(((wV x).map (dfc m D vals)).take i,(i:Int))) (wV x).length (fun i hi=>by
  have gp:(wV x)[i]∈wV x:=K9 hi;obtain⟨⟨g1,g2⟩,g3,g4⟩:=zIX h gp;unfold zMq;simp only
  rw[Jh,xJ hi,zN,vT,K0,J4 hi];simp only[H0];rw[bs,zE9 hm h6 hv g1 g2,bs,zE9 hm h6 hv g3 g4,bs,zDb hm.p (zDU hm h6 hv hz _) (zDU hm h6 hv hz _) (by omega) (by omega),bs,yT (by simp;omega),bs,zC (by omega) (by omega),bs,cs,Jw (by simpa using hi)];simp) (by
  unfold zMq;simp only
  rw[Jh,uH,zS,Jr (by simp)])
 grind
end
end Go.Pl

namespace Go.Pl
open Go Go.Ab Go.Wk Go.Pc
theorem zL5{a b:Int}(h:a=b):(a==b)=i9:=by simp[h]
theorem zL6{a b:Int}(h:a≠b):(a==b)=ia:=by simp[h]
end Go.Pl

namespace Go.Pl
open Go Go.Ab Go.Wk Go.Pc
theorem IsB.both{o o':Option Bool}{P:Prop}(h:IsB o P)(h':IsB o' P):(o=i7 i9∧o'=i7 i9∧P)∨(o=i7 ia∧o'=i7 ia∧ ¬P):=by
 rcases h with⟨h1,h2⟩|⟨h1,h2⟩<;>rcases h' with⟨h3,h4⟩|⟨h3,h4⟩
 ·exact .inl ⟨h1,h3,h2⟩
 ·exact absurd h2 h4
 ·exact absurd h4 h2
 ·exact .inr ⟨h1,h3,h2⟩
end Go.Pl

namespace Go.Pl
open Go Go.Ab Go.Wk Go.Pc
def Sp(p:Int)(n:Nat)(R:Mx)(v:List Int):Prop:=∃c:Nat→Int,∀j,j<n→(S R.length fun i=>c i*ent R i j)%p=at0 v j%p
section
variable {p:Int}{n:Nat}{R R':Mx}{u v w:List Int}
theorem qG{i:Nat}(hi:i<R.length):Sp p n R (R.getD i []):=by refine⟨fun l=>if l=i then 1 else 0,fun j _=>?_⟩;rw[zAd (k:=i) hi (fun l _ hl=>by simp[hl])];simp
theorem zAW{k:Int}(hv:Sp p n R v)(hw:Sp p n R w)(h:∀j,j<n→at0 u j%p=(at0 v j+k*at0 w j)%p):Sp p n R u:=by
 obtain⟨c,hc⟩:=hv;obtain⟨d,hd⟩:=hw;refine⟨fun i=>c i+k*d i,fun j hj=>?_⟩;have e:(S R.length fun i=>(c i+k*d i)*ent R i j)=(S R.length fun i=>c i*ent R i j)+k*(S R.length fun i=>d i*ent R i j):=by rw[←zC7,←zC6];exact xM fun i _=>by rw[Qo,H5]
 rw[e,h j hj,Kc,hc j hj,Jq,hd j hj,←Jq,←Kc]
theorem zEA(h:∀j,j<n→at0 u j%p=0):Sp p n R u:=by refine⟨fun _=>0,fun j hj=>?_⟩;rw[h j hj,xM (g:=fun _=>0) (fun i _=>by simp),qF];simp
theorem kM(h:∀i,i<R.length→Sp p n R' (R.getD i []))(hv:Sp p n R v):Sp p n R' v:=by
 obtain⟨c,hc⟩:=hv;have key:∀m,m≤R.length→ ∃d:Nat→Int,∀j,j<n→(S R'.length fun i=>d i*ent R' i j)%p=(S m fun i=>c i*ent R i j)%p:=by
  intro m
  induction m with
  |zero=>intro _;exact⟨fun _=>0,fun j _=>by rw[xM (g:=fun _=>0) (fun i _=>by simp),qF];rfl⟩
  |succ m ih=>
   intro hm;obtain⟨d,hd⟩:=ih (by omega);obtain⟨e,he⟩:=h m (by omega);refine⟨fun i=>d i+c m*e i,fun j hj=>?_⟩;have e1:(S R'.length fun i=>(d i+c m*e i)*ent R' i j)=(S R'.length fun i=>d i*ent R' i j)+c m*(S R'.length fun i=>e i*ent R' i j):=by rw[←zC7,←zC6];exact xM fun i _=>by rw[Qo,H5]
   rw[e1,Kc,hd j hj,Jq,he j hj,←Jq,←Kc];rfl
 obtain⟨d,hd⟩:=key R.length (Ji _);exact⟨d,fun j hj=>by rw[hd j hj,hc j hj]⟩
end
def jD(p:Int)(n:Nat)(R R':Mx):Prop:=(∀i,i<R.length→Sp p n R' (R.getD i []))∧ ∀i,i<R'.length→Sp p n R (R'.getD i [])
theorem jD.refl{p:Int}{n:Nat}{R:Mx}:jD p n R R:=⟨fun _ h=>qG h,fun _ h=>qG h⟩
theorem jD.symm{p:Int}{n:Nat}{R R':Mx}(h:jD p n R R'):jD p n R' R:=⟨h.2,h.1⟩
theorem jD.trans{p:Int}{n:Nat}{R R' R2:Mx}(h:jD p n R R')(h':jD p n R' R2):jD p n R R2:=⟨fun i hi=>kM h'.1 (h.1 i hi),fun i hi=>kM h.2 (h'.2 i hi)⟩
theorem jD.iff{p:Int}{n:Nat}{R R':Mx}{v:List Int}(h:jD p n R R'):Sp p n R v↔Sp p n R' v:=⟨fun g=>kM h.1 g,fun g=>kM h.2 g⟩
structure Red (p:Int) (n:Nat) (R:Mx) (pv:Nat→Nat):Prop where
 row:∀i,i<R.length→Row p n (R.getD i [])
 lt:∀i,i<R.length→pv i<n
 one:∀i,i<R.length→ent R i (pv i)=1
 low:∀i,i<R.length→ ∀j,j<pv i→ent R i j=0
 off:∀i k,i<R.length→k<R.length→k≠i→ent R k (pv i)=0
 mono:∀i j,i<j→j<R.length→pv i<pv j
section
variable {p:Int} (hp:1<p) {n:Nat}{R R':Mx}{pv pv':Nat→Nat}{v:List Int}
theorem Red.coef(h:Red p n R pv){c:Nat→Int}(hc:∀j,j<n→(S R.length fun i=>c i*ent R i j)%p=at0 v j%p){k:Nat}(hk:k<R.length):c k%p=at0 v (pv k)%p:=by rw[←hc (pv k) (h.lt k hk),zAd (k:=k) hk (fun i hi gf=>by rw[h.off k i hk hi gf];simp),h.one k hk];simp
theorem Red.expand(h:Red p n R pv)(hv:Sp p n R v):∀j,j<n→at0 v j%p=(S R.length fun i=>at0 v (pv i)*ent R i j)%p:=by obtain⟨c,hc⟩:=hv;intro j hj;rw[←hc j hj];exact kL fun i hi=>by rw[Jq,h.coef hc hi,←Jq]
theorem Red.lead(h:Red p n R pv)(hv:Sp p n R v)(gf:∃j,j<n∧at0 v j%p≠0):∃i,i<R.length∧(∀j,j<pv i→at0 v j%p=0)∧at0 v (pv i)%p≠0:=by
 have hx:=h.expand hv;have h1:∃i,i<R.length∧at0 v (pv i)%p≠0:=by
  refine Classical.byContradiction fun hn=>?_
  obtain⟨j,hj,b6⟩:=gf;refine b6 ?_;rw[hx j hj,kL (g:=fun _=>0) (fun i hi=>by
   have:at0 v (pv i)%p=0:=Classical.byContradiction fun h0=>hn ⟨i,hi,h0⟩
   rw[Jq,this];simp),qF];rfl
 obtain⟨i,⟨hi,eO⟩,eB⟩:=zDx h1;refine⟨i,hi,fun j hj=>?_,eO⟩;have bH:j<n:=Nat.lt_trans hj (h.lt i hi);rw[hx j bH,kL (g:=fun _=>0) (fun k hk=>by
  rcases Jj k i with hki|hki
  ·have:at0 v (pv k)%p=0:=Classical.byContradiction fun h0=>eB k hki ⟨hk,h0⟩
   rw[Jq,this];simp
  ·have h2:pv i≤pv k:=by
    rcases Jj i k with h3|h3
    ·exact Nat.le_of_lt (h.mono i k h3 hk)
    ·rw[show i=k from by omega];exact Ji _
   rw[h.low k hk j (by omega)];simp),qF];rfl
 include hp
theorem Red.row_lead(h:Red p n R pv){i:Nat}(hi:i<R.length):(∃j,j<n∧at0 (R.getD i []) j%p≠0)∧(∀j,j<pv i→at0 (R.getD i []) j%p=0)∧at0 (R.getD i []) (pv i)%p≠0:=by
 have h1:at0 (R.getD i []) (pv i)%p≠0:=by have:=h.one i hi;simp only[ent]at this;rw[this,K5 (by omega) hp];omega
 refine⟨⟨pv i,h.lt i hi,h1⟩,fun j hj=>?_,h1⟩;have:=h.low i hi j hj;simp only[ent]at this;rw[this];rfl
theorem Red.piv_in(h:Red p n R pv)(h':Red p n R' pv')(hs:∀i,i<R.length→Sp p n R' (R.getD i [])){i:Nat}(hi:i<R.length):∃k,k<R'.length∧pv' k=pv i:=by
 obtain⟨g1,g2,g3⟩:=h.row_lead hp hi;obtain⟨k,hk,g4,g5⟩:=h'.lead (hs i hi) g1;refine⟨k,hk,?_⟩;rcases Hl (pv' k) (pv i)with h1|h1|h1
 ·exact absurd (g2 _ h1) g5
 ·exact h1
 ·exact absurd (g4 _ h1) g3
theorem Red.piv_eq(h:Red p n R pv)(h':Red p n R' pv')(hs:jD p n R R'):∀i,(i<R.length↔i<R'.length)∧(i<R.length→pv i=pv' i):=by
 intro i
 induction i using Nat.strongRecOn with
 |_ i ih=>
  have a:i<R.length→i<R'.length∧pv' i≤pv i:=fun hi=>by
   obtain⟨k,hk,e⟩:=h.piv_in hp h' hs.1 hi;have hki:i≤k:=by
    refine Classical.byContradiction fun hn=>?_
    have h1:=(ih k (by omega)).2 (by omega);have h2:=h.mono k i (by omega) hi;omega
   refine⟨by omega,?_⟩;rcases Jj i k with h3|h3
   ·have:=h'.mono i k h3 hk;omega
   ·have av:i=k:=by omega
    subst av;omega
  have b:i<R'.length→i<R.length∧pv i≤pv' i:=fun hi=>by
   obtain⟨k,hk,e⟩:=h'.piv_in hp h hs.2 hi;have hki:i≤k:=by
    refine Classical.byContradiction fun hn=>?_
    have h1:=(ih k (by omega)).2 hk;have h2:=h'.mono k i (by omega) hi;omega
   refine⟨by omega,?_⟩;rcases Jj i k with h3|h3
   ·have:=h.mono i k h3 hk;omega
   ·have av:i=k:=by omega
    subst av;omega
  exact⟨⟨fun hi=>(a hi).1,fun hi=>(b hi).1⟩,fun hi=>by have:=(a hi).2;have:=(b (a hi).1).2;omega⟩
theorem Red.unique(h:Red p n R pv)(h':Red p n R' pv')(hs:jD p n R R'):R=R':=by
 have cV:=h.piv_eq hp h' hs;have hl:R.length=R'.length:=by
  rcases Hl R.length R'.length with g|g|g
  ·have:=(cV R.length).1.2 g;omega
  ·exact g
  ·have:=(cV R'.length).1.1 g;omega
 refine zH3 (D:=R.length) rfl hl.symm fun i hi=>?_
 have fq:i<R'.length:=by omega
 have r1:=h.row i hi;have r2:=h'.row i fq;rw[uA r1.1,uA r2.1];refine yC fun j hj=>?_
 have hx:=h'.expand (hs.1 i hi) j hj;rw[xM (g:=fun k=>(if k=i then 1 else 0)*ent R' k j) (fun k hk=>by
  congr 1
  have e:=(cV k).2 (by omega)
  by_cases hki:k=i
  ·subst hki;rw[if_pos rfl,←e];exact h.one k hi
  ·rw[if_neg hki,←e];exact h.off k i (by omega) hi (Ne.symm hki)),zAd (k:=i) fq (fun k _ hk=>by simp[hk])]at hx
 simp only[if_true,Jbi,ent]at hx;have a1:=r1.2 j hj;have a2:=r2.2 j hj;rw[K5 a1.1 (by omega),K5 a2.1 (by omega)]at hx;exact hx
end
end Go.Pl

namespace Go.Pl
open Go Go.Ab Go.Wk Go.Pc
def mkR(m:Nat)(F:Nat→List Int):Mx:=(Jg m).map F
theorem sC{m:Nat}{F:Nat→List Int}:(mkR m F).length=m:=by simp[mkR]
theorem kF{m:Nat}{F:Nat→List Int}{i:Nat}(h:i<m):(mkR m F).getD i []=F i:=by simp[mkR,J2,h]
theorem zJJ{m:Nat}{F:Nat→List Int}{i:Nat}(h:i<m):ixO (mkR m F) (i:Int)=i7 (F i):=by rw[yX [] (by rw[sC];exact h),kF h]
theorem sY{m:Nat}{F G:Nat→List Int}(h:∀i,i<m→F i=G i):mkR m F=mkR m G:=by simp only[mkR];exact Q9 fun i hi=>h i (Kq.1 hi)
theorem zWF{R:Mx}{m:Nat}(h:R.length=m):R=mkR m (fun i=>R.getD i []):=zH3 (D:=m) h sC fun i hi=>by rw[kF hi]
theorem zGq{m:Nat}{F:Nat→List Int}{i:Nat}{a:List Int}:(mkR m F).set i a=mkR m (fun k=>if k=i then a else F k):=by
 apply Kv;intro k
 by_cases hk:k<m
 ·by_cases h:i=k
  ·subst h;simp[mkR,hk]
  ·rw[Q3 h];simp[mkR,hk,Ne.symm h]
 ·rw[K6 (by simp[mkR];omega),K6 (by simp[mkR];omega)]
theorem zEB{m:Nat}{F:Nat→List Int}{i j:Nat}(h:i<m):ent (mkR m F) i j=at0 (F i) j:=by simp only[ent,kF h]
theorem zR3{s:Nat→Int×Int×Int×Int}(n:Nat){r:Int×Int}(h:∀i,i<n→zPS (s i)=i7 (.inl (s (i+1))))(he:zPS (s n)=i7 (.inr r)){p q:Int}(hq:zKm r.2 p=i7 q)(h1:r.1=1)(hs:s 0=(p,(s 0).2.1,0,1)):
  f_O (s 0).2.1 p=i7 (q,i9):=by
 unfold f_O;rw[←hs,zY s n h he,bs,hq,bs,h1];rfl
def zR4:List (Int×Int×Int×Int)→Nat→Int×Int×Int×Int:=fun l i=>l.getD i (0,0,0,0)
theorem tD(l:List (Int×Int×Int×Int))(n:Nat){r:Int×Int}(h:∀i,i<n→zPS (zR4 l i)=i7 (.inl (zR4 l (i+1))))(he:zPS (zR4 l n)=i7 (.inr r)){p q x:Int}(hq:zKm r.2 p=i7 q)(h1:r.1=1)(hs:zR4 l 0=(p,x,0,1)):
  f_O x p=i7 (q,i9):=by
 have:=zR3 (s:=zR4 l) n h he hq h1 (by rw[hs]);rw[hs]at this;exact this
theorem lt1{P:Nat→Prop}(h0:P 0):∀i,i<1→P i:=fun i hi=>by rw[show i=0 from by omega];exact h0
theorem lt2{P:Nat→Prop}(h0:P 0)(h1:P 1):∀i,i<2→P i:=fun i hi=>by match i,hi with|0,_=>exact h0|1,_=>exact h1
theorem lt3{P:Nat→Prop}(h0:P 0)(h1:P 1)(h2:P 2):∀i,i<3→P i:=fun i hi=>by match i,hi with|0,_=>exact h0|1,_=>exact h1|2,_=>exact h2
theorem zEC{p x:Int}(hp:Prime p)(h0:1≤x)(h1:x≤p-1):∃r,f_O x p=i7 (r,i9)∧0≤r∧r≤p-1∧(x*r)%p=1:=by
 have c:(p=2∧x=1)∨(p=3∧(x=1∨x=2))∨(p=5∧(x=1∨x=2∨x=3∨x=4))∨(p=7∧(x=1∨x=2∨x=3∨x=4∨x=5∨x=6)):=by unfold Prime at hp;omega
 rcases c with⟨rfl,rfl⟩|⟨rfl,rfl|rfl⟩|⟨rfl,rfl|rfl|rfl|rfl⟩|⟨rfl,rfl|rfl|rfl|rfl|rfl|rfl⟩
 ·exact⟨1,tD [(2,1,0,1),(1,0,1,-2)] 1 (lt1 (by decide+kernel)) (r:=(1,1)) (by decide+kernel) (by decide+kernel) rfl rfl,by decide,by decide,by decide⟩
 ·exact⟨1,tD [(3,1,0,1),(1,0,1,-3)] 1 (lt1 (by decide+kernel)) (r:=(1,1)) (by decide+kernel) (by decide+kernel) rfl rfl,by decide,by decide,by decide⟩
 ·exact⟨2,tD [(3,2,0,1),(2,1,1,-1),(1,0,-1,3)] 2 (lt2 (by decide+kernel) (by decide+kernel)) (r:=(1,-1)) (by decide+kernel) (by decide+kernel) rfl rfl,by decide,by decide,by decide⟩
 ·exact⟨1,tD [(5,1,0,1),(1,0,1,-5)] 1 (lt1 (by decide+kernel)) (r:=(1,1)) (by decide+kernel) (by decide+kernel) rfl rfl,by decide,by decide,by decide⟩
 ·exact⟨3,tD [(5,2,0,1),(2,1,1,-2),(1,0,-2,5)] 2 (lt2 (by decide+kernel) (by decide+kernel)) (r:=(1,-2)) (by decide+kernel) (by decide+kernel) rfl rfl,by decide,by decide,by decide⟩
 ·exact⟨2,tD [(5,3,0,1),(3,2,1,-1),(2,1,-1,2),(1,0,2,-5)] 3 (lt3 (by decide+kernel) (by decide+kernel) (by decide+kernel)) (r:=(1,2)) (by decide+kernel) (by decide+kernel) rfl rfl,by decide,by decide,by decide⟩
 ·exact⟨4,tD [(5,4,0,1),(4,1,1,-1),(1,0,-1,5)] 2 (lt2 (by decide+kernel) (by decide+kernel)) (r:=(1,-1)) (by decide+kernel) (by decide+kernel) rfl rfl,by decide,by decide,by decide⟩
 ·exact⟨1,tD [(7,1,0,1),(1,0,1,-7)] 1 (lt1 (by decide+kernel)) (r:=(1,1)) (by decide+kernel) (by decide+kernel) rfl rfl,by decide,by decide,by decide⟩
 ·exact⟨4,tD [(7,2,0,1),(2,1,1,-3),(1,0,-3,7)] 2 (lt2 (by decide+kernel) (by decide+kernel)) (r:=(1,-3)) (by decide+kernel) (by decide+kernel) rfl rfl,by decide,by decide,by decide⟩
 ·exact⟨5,tD [(7,3,0,1),(3,1,1,-2),(1,0,-2,7)] 2 (lt2 (by decide+kernel) (by decide+kernel)) (r:=(1,-2)) (by decide+kernel) (by decide+kernel) rfl rfl,by decide,by decide,by decide⟩
 ·exact⟨2,tD [(7,4,0,1),(4,3,1,-1),(3,1,-1,2),(1,0,2,-7)] 3 (lt3 (by decide+kernel) (by decide+kernel) (by decide+kernel)) (r:=(1,2)) (by decide+kernel) (by decide+kernel) rfl rfl,by decide,by decide,by decide⟩
 ·exact⟨3,tD [(7,5,0,1),(5,2,1,-1),(2,1,-1,3),(1,0,3,-7)] 3 (lt3 (by decide+kernel) (by decide+kernel) (by decide+kernel)) (r:=(1,3)) (by decide+kernel) (by decide+kernel) rfl rfl,by decide,by decide,by decide⟩
 ·exact⟨6,tD [(7,6,0,1),(6,1,1,-1),(1,0,-1,7)] 2 (lt2 (by decide+kernel) (by decide+kernel)) (r:=(1,-1)) (by decide+kernel) (by decide+kernel) rfl rfl,by decide,by decide,by decide⟩
end Go.Pl

namespace Go.Pl
open Go Go.Ab Go.Wk Go.Pc
structure zPy (p:Int) (n m:Nat) (rows:Mx) (c:Nat) (M:Mx) (d:Nat) (pv:Nat→Nat):Prop where
 len:M.length=m
 row:∀i,i<m→Row p n (M.getD i [])
 dm:d≤m
 lt:∀i,i<d→pv i<c
 one:∀i,i<d→ent M i (pv i)=1
 low:∀i,i<d→ ∀j,j<pv i→ent M i j=0
 off:∀i k,i<d→k<m→k≠i→ent M k (pv i)=0
 mono:∀i j,i<j→j<d→pv i<pv j
 zero:∀k,d≤k→k<m→ ∀j,j<c→ent M k j=0
 sp:jD p n M rows
theorem zBJ{p:Int}{n m:Nat}{F:Nat→List Int}{i:Nat}(h:i<m):Sp p n (mkR m F) (F i):=by have:=qG (p:=p) (n:=n) (R:=mkR m F) (i:=i) (by rw[sC];exact h);rw[kF h]at this;exact this
theorem zR5(a e r p:Int):a%p=((a+(0-e)*r)%p+e*r)%p:=by rw[Kc,Jy,←Kc,show a+(0-e)*r+e*r=a from by rw[Jan,Qh];omega]
section
variable {p:Int} (hp:Prime p) {n m:Nat}{rows:Mx}{c:Nat}{M:Mx}{d:Nat}{pv:Nat→Nat} (h:zPy p n m rows c M d pv) (hc:c<n) (hd:d<m)
 include hp h hc hd
theorem zPy.pivot{t:Nat}(ht:d≤t)(tc:t<m)(gf:ent M t c≠0){q:Int}(hq:(ent M t c*q)%p=1):
  zPy p n m rows (c+1) (mkR m fun i=>if i=d then mkv n fun j=>(ent M t j*q)%p else tN p n (if i=t then M.getD d []else M.getD i []) (0-at0 (if i=t then M.getD d []else M.getD i []) c) (mkv n fun j=>(ent M t j*q)%p)) (d+1) (fun i=>if i=d then c else pv i):=by
 have h7:=hp.pos;have pr:∀j,j<n→at0 (mkv n fun j=>(ent M t j*q)%p) j=(ent M t j*q)%p:=fun j hj=>yG hj
 have p0:∀j,j<c→(ent M t j*q)%p=0:=fun j hj=>by rw[h.zero t ht tc j hj];simp
 have prow:Row p n (mkv n fun j=>(ent M t j*q)%p):=⟨yA _ _,fun j hj=>by have e1:=Kx (ent M t j*q) (show p≠0 by omega);have e2:=Kg (ent M t j*q) (show 0<p by omega);rw[pr j hj];omega⟩
 have hG:∀i,i<m→i≠d→Row p n (if i=t then M.getD d []else M.getD i []):=fun i hi _=>by
  split
  ·exact h.row d hd
  ·exact h.row i hi
 have eo:∀i j,i<m→i≠d→j<n→ent (mkR m fun i=>if i=d then mkv n fun j=>(ent M t j*q)%p else tN p n (if i=t then M.getD d []else M.getD i []) (0-at0 (if i=t then M.getD d []else M.getD i []) c) (mkv n fun j=>(ent M t j*q)%p)) i j=(at0 (if i=t then M.getD d []else M.getD i []) j+(0-at0 (if i=t then M.getD d []else M.getD i []) c)*((ent M t j*q)%p))%p:=fun i j hi eA hj=>by rw[zEB hi,if_neg eA,tN,yG hj,pr j hj]
 have el:∀i j,i<m→i≠d→j<c→ent (mkR m fun i=>if i=d then mkv n fun j=>(ent M t j*q)%p else tN p n (if i=t then M.getD d []else M.getD i []) (0-at0 (if i=t then M.getD d []else M.getD i []) c) (mkv n fun j=>(ent M t j*q)%p)) i j=at0 (if i=t then M.getD d []else M.getD i []) j:=fun i j hi eA hj=>by rw[eo i j hi eA (by omega),p0 j hj,Lb,Ly];have:=(hG i hi eA).2 j (by omega);exact K5 this.1 (by omega)
 have ed:∀j,j<n→ent (mkR m fun i=>if i=d then mkv n fun j=>(ent M t j*q)%p else tN p n (if i=t then M.getD d []else M.getD i []) (0-at0 (if i=t then M.getD d []else M.getD i []) c) (mkv n fun j=>(ent M t j*q)%p)) d j=(ent M t j*q)%p:=fun j hj=>by rw[zEB hd,if_pos rfl,pr j hj]
 have ec:∀i,i<m→i≠d→ent (mkR m fun i=>if i=d then mkv n fun j=>(ent M t j*q)%p else tN p n (if i=t then M.getD d []else M.getD i []) (0-at0 (if i=t then M.getD d []else M.getD i []) c) (mkv n fun j=>(ent M t j*q)%p)) i c=0:=fun i hi eA=>by rw[eo i c hi eA hc,hq,Lt];rw[show at0 (if i=t then M.getD d []else M.getD i []) c+(0-at0 (if i=t then M.getD d []else M.getD i []) c)=0 from by omega];simp
 have fJ:∀i,i<d→(if i=t then M.getD d []else M.getD i [])=M.getD i []:=fun i hi=>by rw[if_neg (by omega)]
 have bv:∀i,d≤i→i<m→ ∀j,j<c→at0 (if i=t then M.getD d []else M.getD i []) j=0:=fun i hi eO j hj=>by
  split
  ·exact h.zero d (Ji _) hd j hj
  ·exact h.zero i hi eO j hj
 refine⟨sC,fun i hi=>?_,by omega,fun i hi=>?_,fun i hi=>?_,fun i hi j hj=>?_,fun i k hi hk eA=>?_,fun i j gM hj=>?_,fun k hk fj j hj=>?_,?_⟩
 ·rw[kF hi]
  split
  ·exact prow
  ·exact zA3 hp
 ·by_cases hJ:i=d
  ·rw[if_pos hJ];omega
  ·rw[if_neg hJ];have:=h.lt i (by omega);omega
 ·by_cases hJ:i=d
  ·subst hJ;rw[if_pos rfl,ed c hc,hq]
  ·have h1:=h.lt i (by omega)
   rw[if_neg hJ,el i _ (by omega) hJ h1,fJ i (by omega)];exact h.one i (by omega)
 ·by_cases hJ:i=d
  ·subst hJ
   rw[if_pos rfl]at hj;rw[ed j (by omega),p0 j hj]
  ·rw[if_neg hJ]at hj
   have h1:=h.lt i (by omega);rw[el i j (by omega) hJ (by omega),fJ i (by omega)];exact h.low i (by omega) j hj
 ·by_cases hJ:i=d
  ·subst hJ
   rw[if_pos rfl];exact ec k hk eA
  ·have h1:=h.lt i (by omega)
   rw[if_neg hJ]
   by_cases ml:k=d
   ·subst ml
    rw[ed _ (by omega),h.off i t (by omega) tc (by omega)];simp
   ·rw[el k _ hk ml h1]
    split
    ·exact h.off i d (by omega) hd (Ne.symm hJ)
    ·exact h.off i k (by omega) hk eA
 ·by_cases hjd:j=d
  ·subst hjd
   rw[if_pos rfl,if_neg (by omega)];exact h.lt i (by omega)
  ·rw[if_neg hjd,if_neg (by omega)];exact h.mono i j gM (by omega)
 ·rcases Jj j c with hjc|hjc
  ·rw[el k j fj (by omega) hjc];exact bv k (by omega) fj j hjc
  ·rw[show j=c from by omega];exact ec k fj (by omega)
 ·refine jD.trans ⟨fun i hi=>?_,fun i hi=>?_⟩ h.sp
  ·rw[sC]at hi
   rw[kF hi];have hr:Sp p n M (mkv n fun j=>(ent M t j*q)%p):=by
    refine zAW (k:=q) (zEA (u:=[]) fun j _=>by simp[at0]) (qG (R:=M) (i:=t) (by rw[h.len];exact tc)) fun j hj=>?_
    rw[pr j hj,Jy,Gi];simp[at0]
   split
   ·exact hr
   ·refine zAW (k:=0-at0 (if i=t then M.getD d []else M.getD i []) c) (v:=if i=t then M.getD d []else M.getD i []) ?_ hr fun j hj=>?_
    ·split
     ·exact qG (by rw[h.len];exact hd)
     ·exact qG (by rw[h.len];exact hi)
    ·rw[tN,yG hj,Jy]
  ·rw[h.len]at hi
   have hr:=zBJ (p:=p) (n:=n) (m:=m) (F:=fun i=>if i=d then mkv n fun j=>(ent M t j*q)%p else tN p n (if i=t then M.getD d []else M.getD i []) (0-at0 (if i=t then M.getD d []else M.getD i []) c) (mkv n fun j=>(ent M t j*q)%p)) hd;simp only[if_true]at hr;have hg:∀k,k<m→k≠d→Sp p n (mkR m fun i=>if i=d then mkv n fun j=>(ent M t j*q)%p else tN p n (if i=t then M.getD d []else M.getD i []) (0-at0 (if i=t then M.getD d []else M.getD i []) c) (mkv n fun j=>(ent M t j*q)%p)) (if k=t then M.getD d []else M.getD k []):=fun k hk ml=>by
    have h1:=zBJ (p:=p) (n:=n) (m:=m) (F:=fun i=>if i=d then mkv n fun j=>(ent M t j*q)%p else tN p n (if i=t then M.getD d []else M.getD i []) (0-at0 (if i=t then M.getD d []else M.getD i []) c) (mkv n fun j=>(ent M t j*q)%p)) hk;simp only[if_neg ml]at h1;refine zAW (k:=at0 (if k=t then M.getD d []else M.getD k []) c) h1 hr fun j hj=>?_
    rw[tN,yG hj,pr j hj];exact zR5 _ _ _ _
   by_cases ef:i=t
   ·
    subst ef;refine zAW (k:=ent M i c) (zEA (u:=[]) fun j _=>by simp[at0]) hr fun j hj=>?_
    rw[pr j hj];have e1:(ent M i c*((ent M i j*q)%p))%p=(ent M i j*((ent M i c*q)%p))%p:=by
     rw[Jq,Jy,←Jq,Jq (ent M i j),Jy,←Jq]
     congr 1
     rw[←H5,←H5,Gi (ent M i c)]
    rw[show at0 ([]:List Int) j=0 from by simp[at0],Lo,e1,hq,Lt]
   ·by_cases hJ:i=d
    ·subst hJ
     have:=hg t tc (by omega);rw[if_pos rfl]at this;exact this
    ·have:=hg i hi hJ
     rw[if_neg ef]at this;exact this
end
end Go.Pl

namespace Go.Pl
open Go Go.Ab Go.Wk Go.Pc
theorem zHB{v:List Int}(h:v.length≤1000000):f_N v=i7 v:=by unfold f_N;rw[yT (by simp;omega),bs,Jt]
theorem zIr{rows:Mx}(hm:rows.length≤1000000)(hn:∀i,i<rows.length→(rows.getD i []).length≤1000000):zUP rows=i7 rows:=by
 unfold zUP;have:=zY (body:=zMi rows) (r:=rows) (fun i=>(rows.take i,(i:Int))) rows.length (fun i hi=>by
  unfold zMi;simp only
  rw[xJ hi,zN,yX [] hi,bs,zHB (hn i hi),bs,yT (by simp;omega),bs,zC (by omega) (by omega),bs,cs,Jw hi,J2,J4 hi];rfl) (by
  unfold zMi;simp only
  rw[uH,zS,Qt])
 rw[show((0:Nat):Int)=0 from rfl,K8]at this;rw[this,bs]
theorem zPz{M:Mx}{d c m n:Nat}(hm:M.length=m)(hd:d≤m)(hmm:m≤1000000)(fD:∀i,i<m→(M.getD i []).length=n)(hc:c<n):
  ∃t:Nat,d≤t∧t≤m∧zJ (zIt (M,(d:Int),(c:Int))) (d:Int)=i7 (t:Int)∧(∀k,d≤k→k<t→ent M k c=0)∧(t<m→ent M t c≠0):=by
 have key:∀k,k≤m-d→ ∃t:Nat,m-k≤t∧t≤m∧zJ (zIt (M,(d:Int),(c:Int))) ((m-k:Nat):Int)=i7 (t:Int)∧(∀q,m-k≤q→q<t→ent M q c=0)∧(t<m→ent M t c≠0):=by
  intro k
  induction k with
  |zero=>
   intro _;refine⟨m,by omega,Ji _,?_,fun q h1 h2=>by omega,fun h=>by omega⟩;rw[xT];unfold zIt;simp only
   rw[hm,show m-0=m from rfl,uH,zS]
  |succ k ih=>
   intro hk;obtain⟨t,h1,h2,h3,h4,h5⟩:=ih (by omega);have gD:m-(k+1)<m:=by omega
   by_cases hz:ent M (m-(k+1)) c=0
   ·refine⟨t,by omega,h2,?_,fun q q1 q2=>?_,h5⟩
    ·rw[xT]
     have e:zIt (M,(d:Int),(c:Int)) ((m-(k+1):Nat):Int)=i7 (.inl ((m-k:Nat):Int)):=by
      unfold zIt;simp only
      rw[hm,xJ gD,zN,yX [] (by omega),bs,yW (by rw[fD _ gD];exact hc),bs,zL5 hz,zN,zC (by omega) (by omega),bs,cs,show m-(k+1)+1=m-k from by omega]
     rw[e];exact h3
    ·rcases Jj (m-(k+1)) q with g|g
     ·exact h4 q (by omega) q2
     ·rw[show q=m-(k+1)from by omega];exact hz
   ·refine⟨m-(k+1),Ji _,by omega,?_,fun q q1 q2=>by omega,fun _=>hz⟩
    rw[xT];have e:zIt (M,(d:Int),(c:Int)) ((m-(k+1):Nat):Int)=i7 (.inr ((m-(k+1):Nat):Int)):=by
     unfold zIt;simp only
     rw[hm,xJ gD,zN,yX [] (by omega),bs,yW (by rw[fD _ gD];exact hc),bs,zL6 hz,zS]
    rw[e]
 obtain⟨t,h1,h2,h3,h4,h5⟩:=key (m-d) (Ji _);rw[show m-(m-d)=d from by omega]at h1 h3 h4;exact⟨t,h1,h2,h3,h4,h5⟩
section
variable {p:Int} (hp:Prime p) {n m:Nat}{M:Mx}{d c t:Nat}
 include hp
theorem zMY{F:Nat→List Int}{q:Int}{b:Bool}(hd:d<m)(hr:Row p n (F d))(hn:n≤1000000)(hq:0≤q∧q≤p-1){v:List Int}(hv:v.length=n){s:Mx×Int×Int}(hs:s.2.1=(d:Int)):
  zJ (zMj p s (q,b) v) (mkR m F,0)=i7 (mkR m fun i=>if i=d then mkv n fun j=>(at0 (F d) j*q)%p else F i):=by
 have h7:=hp.pos;have:=zY (body:=zMj p s (q,b) v) (r:=mkR m fun i=>if i=d then mkv n fun j=>(at0 (F d) j*q)%p else F i) (fun k=>(mkR m fun i=>if i=d then mkv n (fun j=>if j<k then(at0 (F d) j*q)%p else at0 (F d) j)else F i,(k:Int))) n (fun k hk=>by
  have a1:=hr.2 k hk;have a2:=zBH hp (k:=q) ⟨by omega,by omega⟩ a1;have a3:=G3 a1.1 hq.1;rw[Gi]at a2;unfold zMj;simp only
  rw[hv,xJ hk,zN,hs,zJJ hd];simp only[bs,if_true];rw[yW (by rw[yA];exact hk),yG hk,if_neg (by omega)];simp only[bs];rw[zC (by omega) (by omega)];simp only[bs,uU];rw[if_neg (by omega)];simp only[bs];rw[Kw a3,zC (by omega) (by omega)];simp only[bs,Ja,cs];rw[zGq]
  congr 3
  refine sY fun i _=>?_
  by_cases hi:i=d
  ·rw[if_pos hi,if_pos hi,jC]
   refine yC fun j _=>?_
   by_cases hj:j=k
   ·subst hj;rw[if_pos rfl,if_pos (by omega)]
   ·rw[if_neg hj]
    by_cases b6:j<k
    ·rw[if_pos b6,if_pos (by omega)]
    ·rw[if_neg b6,if_neg (by omega)]
  ·rw[if_neg hi,if_neg hi,if_neg hi]) (by
  unfold zMj;simp only
  rw[hv,uH,zS]
  congr 2
  refine sY fun i _=>?_
  split
  ·exact yC fun j hj=>by rw[if_pos hj]
  ·rfl)
 rw[show((0:Nat):Int)=0 from rfl]at this;rw[←this]
 congr 2
 refine sY fun i _=>?_
 split
 ·rename_i e;subst e
  conv=>lhs;rw[uA hr.1]
  exact yC fun j _=>by rw[if_neg (by omega)]
 ·rfl
theorem zMZ{F:Nat→List Int}(hd:d<m)(hc:c<n)(hr:∀i,i<m→Row p n (F i))(hn:n≤1000000)(hm:m≤1000000){r21:Mx}(hl:r21.length=m){s:Mx×Int×Int}(hs:s.2.1=(d:Int))(bB:s.2.2=(c:Int)):
  zJ (zN2 p s r21) (mkR m F,0)=i7 (mkR m fun i=>if i=d then F d else tN p n (F i) (0-at0 (F i) c) (F d)):=by
 have h7:=hp.pos;have:=zY (body:=zN2 p s r21) (r:=mkR m fun i=>if i=d then F d else tN p n (F i) (0-at0 (F i) c) (F d)) (fun k=>(mkR m fun i=>if i<k∧i≠d then tN p n (F i) (0-at0 (F i) c) (F d)else F i,(k:Int))) m (fun k hk=>by
  have a1:=(hr k hk).2 c hc;unfold zN2;simp only
  rw[hl,xJ hk,zN,hs,bB]
  by_cases ml:k=d
  ·subst ml
   rw[zAb rfl,zS,zC (by omega) (by omega),bs,cs]
   congr 3
   refine sY fun i _=>?_
   by_cases hi:i=k
   ·subst hi;rw[if_neg (by omega),if_neg (by omega)]
   ·by_cases eO:i<k
    ·rw[if_pos ⟨eO,hi⟩,if_pos ⟨by omega,hi⟩]
    ·rw[if_neg (by omega),if_neg (by omega)]
  ·rw[zAc (by omega),zN,zJJ hk,zJJ hd]
   simp only[bs,ne_eq,not_true_eq_false,and_false,if_false,Jbk,false_and];rw[yW (by rw[(hr k hk).1];exact hc)];simp only[bs];rw[zC (by omega) (by omega)];simp only[bs];rw[zDb hp (hr k hk) (hr d hd) (by omega) hn,bs,zC (by omega) (by omega)];simp only[bs,Ja,cs];rw[zGq]
   congr 3
   refine sY fun i _=>?_
   by_cases hi:i=k
   ·subst hi;rw[if_pos rfl,if_pos ⟨by omega,ml⟩]
   ·rw[if_neg hi]
    by_cases eO:i<k∧ ¬i=d
    ·rw[if_pos eO,if_pos ⟨by omega,eO.2⟩]
    ·rw[if_neg eO,if_neg (by omega)]) (by
  unfold zN2;simp only
  rw[hl,uH,zS]
  congr 2
  refine sY fun i hi=>?_
  by_cases hJ:i=d
  ·rw[if_pos hJ,if_neg (by omega),hJ]
  ·rw[if_neg hJ,if_pos ⟨hi,hJ⟩])
 rw[show((0:Nat):Int)=0 from rfl]at this;rw[←this]
 congr 2
end
end Go.Pl

namespace Go.Pl
open Go Go.Ab Go.Wk Go.Pc
theorem Red.empty{p:Int}{n:Nat}:Red p n [] (fun _=>0):=⟨fun _ h=>by simp at h,fun _ h=>by simp at h,fun _ h=>by simp at h,fun _ h=>by simp at h,fun _ _ h=>by simp at h,fun _ _ _ h=>by simp at h⟩
theorem zPy.take{p:Int}{n m:Nat}{rows:Mx}{c:Nat}{M:Mx}{d:Nat}{pv:Nat→Nat}(h:zPy p n m rows c M d pv)(aE:c≤n)(hz:∀k,d≤k→k<m→ ∀j,j<n→ent M k j=0):Red p n (M.take d) pv∧jD p n (M.take d) rows:=by
 have hl:(M.take d).length=d:=by rw[Ka,h.len];exact Qs h.dm
 have hg:∀i,i<d→(M.take d).getD i []=M.getD i []:=fun i hi=>by simp only[J2,Jcc,if_pos hi]
 have dm:=h.dm;refine⟨⟨fun i hi=>?_,fun i hi=>?_,fun i hi=>?_,fun i hi j hj=>?_,fun i k hi hk gf=>?_,fun i j gM hj=>?_⟩,jD.trans ⟨fun i hi=>?_,fun i hi=>?_⟩ h.sp⟩
 ·rw[hl]at hi;rw[hg i hi];exact h.row i (by omega)
 ·rw[hl]at hi;have:=h.lt i hi;omega
 ·rw[hl]at hi;simp only[ent,hg i hi];exact h.one i hi
 ·rw[hl]at hi;simp only[ent,hg i hi];exact h.low i hi j hj
 ·rw[hl]at hi hk;simp only[ent,hg k hk];exact h.off i k hi (by omega) gf
 ·rw[hl]at hj;exact h.mono i j gM hj
 ·rw[hl]at hi;rw[hg i hi];exact qG (by rw[h.len];omega)
 ·rw[h.len]at hi
  rcases Jj i d with g|g
  ·have:=qG (p:=p) (n:=n) (R:=M.take d) (i:=i) (by rw[hl];exact g)
   rw[hg i g]at this;exact this
  ·exact zEA fun j hj=>by have:=hz i g hi j hj;simp only[ent]at this;rw[this];rfl
section
variable {p:Int} (hp:Prime p) {n:Nat}{rows:Mx} (hn:n≤100000) (hm:rows.length≤600000) (hr:∀i,i<rows.length→Row p n (rows.getD i []))
 include hp hn hm hr
theorem zL7:∃R pv,f_i p rows=i7 R∧Red p n R pv∧jD p n R rows:=by
 have h7:=hp.pos;unfold f_i;rw[zIr (by omega) (fun i hi=>by have:=(hr i hi).1;omega),bs];have main:=tC (body:=zN3 p) (s:=(rows,0,0)) (Q:=fun r=> ∃(M:Mx)(d:Nat)(pv:Nat→Nat),r=(M,(d:Int))∧d≤M.length∧Red p n (M.take d) pv∧jD p n (M.take d) rows)
  (fun i s=> ∃(M:Mx)(d:Nat)(pv:Nat→Nat),s=(M,(d:Int),(i:Int))∧zPy p n rows.length rows i M d pv∧i≤n) n (fun c s hc hI=>?_) (fun s hI=>?_) ⟨rows,0,fun _=>0,rfl,⟨rfl,hr,Km _,fun _ h=>by omega,fun _ h=>by omega,fun _ h=>by omega,fun _ _ h=>by omega,fun _ _ _ h=>by omega,fun _ _ _ _ h=>by omega,jD.refl⟩,Km _⟩
 ·obtain⟨r,h1,M,d,pv,rfl,hd,hR,hS⟩:=main
  rw[h1,bs];simp only
  have e:yB M 0 (d:Int)=i7 (M.take d):=by unfold yB;rw[if_pos ⟨by omega,by omega,by omega⟩];simp
  rw[e,bs];exact⟨_,_,rfl,hR,hS⟩
 ·
  obtain⟨M,d,pv,rfl,h,aE⟩:=hI;have hl:=h.len;have pW:=h.dm
  by_cases h0:rows.length=0
  ·refine .inr ⟨(M,(d:Int)),?_,M,d,pv,rfl,by omega,h.take aE fun k hk fj=>by omega⟩
   unfold zN3;simp only
   rw[ib (by omega),zS]
  have e0:zN3 p (M,(d:Int),(c:Int))=cond (decide ((d:Int)<(M.length:Int))) ((zJ (zIt (M,(d:Int),(c:Int))) (d:Int)).bind fun r6=>
    cond (r6==(M.length:Int)) ((rng ((c:Int)+1)).bind fun v7=>i7 (.inl (M,(d:Int),v7))) (
     (ixO M r6).bind fun v8=>(ixO M (d:Int)).bind fun v9=>(ixO (jL M (d:Int) r6 v8 v9) (d:Int)).bind fun v10=>(ixO v10 (c:Int)).bind fun v11=>(f_O v11 p).bind fun r12=>
     (ixO (jL M (d:Int) r6 v8 v9) (d:Int)).bind fun v13=>(zJ (zMj p (M,(d:Int),(c:Int)) r12 v13) (jL M (d:Int) r6 v8 v9,0)).bind fun r21=>
     (zJ (zN2 p (M,(d:Int),(c:Int)) r21) (r21,0)).bind fun r30=>(rng ((d:Int)+1)).bind fun v31=>(rng ((c:Int)+1)).bind fun v32=>i7 (.inl (r30,v31,v32)))) (i7 (.inr (M,(d:Int)))):=by
   unfold zN3;simp only
   have hx:ixO M (0:Int)=i7 (M.getD 0 []):=by have:=yX (v:=M) (i:=0) [] (by omega);exact this
   rw[ic (by omega),zN,hx];simp only[bs];rw[(h.row 0 (by omega)).1,xJ hc,zN]
  rcases Jj d rows.length with hd|hd
  ·obtain⟨t,t1,t2,t3,t4,t5⟩:=zPz (M:=M) (d:=d) (c:=c) (m:=rows.length) (n:=n) hl pW (by omega) (fun i hi=>(h.row i hi).1) hc
   rw[e0,hl,xJ hd,zN,t3];simp only[bs]
   by_cases tc:t=rows.length
   ·
    left;refine⟨(M,(d:Int),((c+1:Nat):Int)),?_,M,d,pv,rfl,⟨hl,h.row,pW,fun i hi=>by have:=h.lt i hi;omega,h.one,h.low,h.off,h.mono,fun k k1 k2 j hj=>?_,h.sp⟩,by omega⟩
    ·rw[zL5 (by omega),zN,zC (by omega) (by omega),bs,cs]
    ·rcases Jj j c with g|g
     ·exact h.zero k k1 k2 j g
     ·rw[show j=c from by omega];exact t4 k k1 (by omega)
   ·have cx:t<rows.length:=by omega
    have gf:=t5 cx;have f8:=h.row t cx;have hrc:=f8.2 c hc;obtain⟨q,q1,q2,q3,q4⟩:=zEC (p:=p) (x:=ent M t c) hp (by simp only[ent]at gf ⊢;omega) (by simp only[ent];omega);left;have hM:M=mkR rows.length (fun i=>M.getD i []):=zWF hl;obtain⟨F,hF⟩:∃F:Nat→List Int,∀i,F i=if i=t then M.getD d []else if i=d then M.getD t []else M.getD i []:=⟨_,fun _=>rfl⟩
    have ma:jL M (d:Int) (t:Int) (M.getD t []) (M.getD d [])=mkR rows.length F:=by
     unfold jL;rw[Ja,Ja]
     conv=>lhs;rw[hM]
     rw[zGq,zGq];exact sY fun i hi=>by rw[hF,kF hd,kF cx]
    have md:∀i,i<rows.length→Row p n (F i):=fun i hi=>by
     rw[hF];split
     ·exact h.row d hd
     ·split
      ·exact f8
      ·exact h.row i hi
    have hFd:F d=M.getD t []:=by
     rw[hF]
     by_cases e:d=t
     ·rw[if_pos e,e]
     ·rw[if_neg e,if_pos rfl]
    obtain⟨G,hG⟩:∃G:Nat→List Int,∀i,G i=if i=d then mkv n fun j=>(at0 (F d) j*q)%p else F i:=⟨_,fun _=>rfl⟩
    have hGd:G d=mkv n fun j=>(ent M t j*q)%p:=by rw[hG,if_pos rfl,hFd]
    have hGo:∀i,i≠d→G i=if i=t then M.getD d []else M.getD i []:=fun i hJ=>by rw[hG,if_neg hJ,hF];simp only[hJ,if_false]
    have bA:zJ (zMj p (M,(d:Int),(c:Int)) (q,i9) (M.getD t [])) (mkR rows.length F,0)=i7 (mkR rows.length G):=by
     rw[zMY hp (F:=F) hd (md d hd) (by omega) ⟨q2,q3⟩ f8.1 rfl]
     congr 1
     exact sY fun i _=>(hG i).symm
    have hF3:∀i,i<rows.length→Row p n (G i):=fun i hi=>by
     rw[hG];split
     ·refine⟨yA _ _,fun j hj=>?_⟩
      have e1:=Kx (at0 (F d) j*q) (show p≠0 by omega);have e2:=Kg (at0 (F d) j*q) (show 0<p by omega);rw[yG hj];omega
     ·exact md i hi
    have gE:=zMZ hp (c:=c) (F:=G) hd hc hF3 (by omega) (by omega) (r21:=mkR rows.length G) sC (s:=(M,(d:Int),(c:Int))) rfl rfl;rw[zL6 (by omega),zS,yX [] (by omega),yX [] (by omega)];simp only[bs];rw[ma,zJJ hd,hFd];simp only[bs];rw[yW (by rw[f8.1];exact hc)];simp only[bs];rw[show at0 (M.getD t []) c=ent M t c from rfl,q1];simp only[bs];rw[bA];simp only[bs];rw[gE];simp only[bs];rw[zC (by omega) (by omega),zC (by omega) (by omega)];simp only[bs,cs];have bc:=h.pivot hp hc hd t1 cx gf q4;refine⟨_,rfl,_,d+1,fun i=>if i=d then c else pv i,rfl,?_,by omega⟩;have e3:(mkR rows.length fun i=>if i=d then G d else tN p n (G i) (0-at0 (G i) c) (G d))=(mkR rows.length fun i=>if i=d then mkv n fun j=>(ent M t j*q)%p else tN p n (if i=t then M.getD d []else M.getD i []) (0-at0 (if i=t then M.getD d []else M.getD i []) c) (mkv n fun j=>(ent M t j*q)%p)):=by
     refine sY fun i hi=>?_
     rw[hGd]
     by_cases hJ:i=d
     ·rw[if_pos hJ,if_pos hJ]
     ·rw[if_neg hJ,if_neg hJ,hGo i hJ]
    rw[e3];exact bc
  ·
   refine .inr ⟨(M,(d:Int)),?_,M,d,pv,rfl,by omega,h.take aE fun k hk fj=>by omega⟩;rw[e0,ib (by omega),zS]
 ·
  obtain⟨M,d,pv,rfl,h,aE⟩:=hI;have hl:=h.len;have pW:=h.dm;refine⟨(M,(d:Int)),?_,M,d,pv,rfl,by omega,h.take aE fun k hk fj j hj=>h.zero k hk fj j hj⟩;unfold zN3;simp only
  by_cases h0:rows.length=0
  ·rw[ib (by omega),zS]
  ·have hx:ixO M (0:Int)=i7 (M.getD 0 []):=by
    have:=yX (v:=M) (i:=0) [] (by omega);exact this
   rw[ic (by omega),zN,hx];simp only[bs];rw[(h.row 0 (by omega)).1,uH,zS]
end
end Go.Pl

namespace Go.Pl
open Go Go.Ab Go.Wk Go.Pc
theorem zJb{v:List Int}{n:Nat}(hl:v.length=n)(hn:n≤1000000):∃k:Nat,k≤n∧f_C v=i7 (k:Int)∧(∀j,j<k→at0 v j=0)∧(k<n→at0 v k≠0):=by
 unfold f_C;rcases chk (body:=zIu v) n 0 (Km _) (fun i=>at0 v i=0) (fun i=>(i:Int)) (fun i _ hi _=>by
   unfold zIu;rw[hl,xJ hi,zN,yW (by omega),bs]
   by_cases h:at0 v i=0
   ·rw[zAb h,zS,zC (by omega) (by omega),bs,cs];exact .inl ⟨rfl,h⟩
   ·rw[zAc h,zN];exact .inr ⟨rfl,h⟩) (by
   unfold zIu;rw[hl,uH,zS])with⟨h1,h2⟩|⟨i,_,hi,h1,h2⟩
 ·rw[show((0:Nat):Int)=0 from rfl]at h1
  rw[h1,bs];exact⟨n,Ji _,by simp only[hl],fun j hj=>h2 j (Km _) hj,fun h=>by omega⟩
 ·rw[show((0:Nat):Int)=0 from rfl]at h1
  rw[h1,bs];obtain⟨k,⟨hk1,fj⟩,eB⟩:=zDx (p:=fun k=>k<n∧at0 v k≠0) ⟨i,hi,h2⟩;have hz:∀j,j<k→at0 v j=0:=fun j hj=>Classical.byContradiction fun h=>eB j hj ⟨by omega,h⟩
  have hki:k=i:=by
   have eM:∀q,q≤k→zJ (zIu v) ((k-q:Nat):Int)=i7 (.inr (k:Int)):=by
    intro q
    induction q with
    |zero=>
     intro _;rw[xT];have e:zIu v ((k-0:Nat):Int)=i7 (.inr (.inr (k:Int))):=by unfold zIu;rw[show k-0=k from rfl,hl,xJ hk1,zN,yW (by omega),bs,zAc fj,zN]
     rw[e]
    |succ q ih=>
     intro hq;rw[xT];have e:zIu v ((k-(q+1):Nat):Int)=i7 (.inl ((k-q:Nat):Int)):=by unfold zIu;rw[hl,xJ (by omega),zN,yW (by omega),bs,zAb (hz _ (by omega)),zS,zC (by omega) (by omega),bs,cs,show k-(q+1)+1=k-q from by omega]
     rw[e];exact ih (by omega)
   have:=eM k (Ji _);rw[Kl,show((0:Nat):Int)=0 from rfl,h1]at this;have:=Sum.inr.inj (Lq.inj this);omega
  exact⟨i,by omega,rfl,by rw[←hki];exact hz,fun _=>h2⟩
theorem zJK{v:List Int}{n k:Nat}(hl:v.length=n)(hn:n≤1000000)(hk:k<n)(h0:∀j,j<k→at0 v j=0)(h1:at0 v k≠0):f_C v=i7 (k:Int):=by
 obtain⟨q,q1,q2,q3,q4⟩:=zJb hl hn;have:q=k:=by
  rcases Hl q k with g|g|g
  ·exact absurd (h0 q g) (q4 (by omega))
  ·exact g
  ·exact absurd (q3 k g) h1
 rw[q2,this]
theorem zR6{p x:Int}(hp:Prime p)(h0:1≤x)(h1:x≤p-1):∃r,zUR x p=i7 r∧0≤r∧r≤p-1∧(x*r)%p=1:=by
 have h7:=hp.pos;have hx:∃k:Nat,1≤k∧(k:Int)<p∧(x*(k:Int))%p=1:=by
  obtain⟨r,_,r1,r2,r3⟩:=zEC hp h0 h1;refine⟨r.toNat,?_,by omega,by rw[Jcs r1];exact r3⟩;rcases Int.lt_or_eq_of_le r1 with g|g
  ·omega
  ·rw[←g]at r3;simp at r3
 obtain⟨k,⟨k1,k2,k3⟩,eB⟩:=zDx hx;have body:∀i:Nat,1≤i→(i:Int)<p→zMl x p (i:Int)=cond ((x*(i:Int))%p==1) (i7 (.inr (.inr (i:Int)))) (i7 (.inl ((i+1:Nat):Int))):=fun i hi hip=>by
  have a3:=G3 (show 0≤x by omega) (show 0≤(i:Int)by omega);have a4:=zBH hp (k:=(i:Int)) ⟨by omega,by omega⟩ (b:=x) ⟨by omega,h1⟩;rw[Gi]at a4;unfold zMl;rw[ic hip,zN,zL4 hp (by omega) (by omega),bs,K5 (by omega) (by omega),zC (by omega) (by omega),bs];unfold uU;rw[if_neg (by omega),bs,Kw a3]
  by_cases hh:(x*(i:Int))%p=1
  ·rw[zL5 hh,zN,zN]
  ·rw[zL6 hh,zS,zS,zC (by omega) (by omega),bs,cs]
 have eM:∀q,q+1≤k→zJ (zMl x p) ((k-q:Nat):Int)=i7 (.inr (k:Int)):=by
  intro q
  induction q with
  |zero=>
   intro _;rw[xT,show k-0=k from rfl,body k k1 k2,zL5 k3,zN]
  |succ q ih=>
   intro hq;have gf:(x*((k-(q+1):Nat):Int))%p≠1:=fun h=>eB (k-(q+1)) (by omega) ⟨by omega,by omega,h⟩
   rw[xT,body _ (by omega) (by omega),zL6 gf,zS,show k-(q+1)+1=k-q from by omega];exact ih (by omega)
 have:=eM (k-1) (by omega);rw[show k-(k-1)=1 from by omega,show((1:Nat):Int)=1 from rfl]at this;refine⟨(k:Int),?_,by omega,by omega,k3⟩;unfold zUR;rw[this,bs]
section
variable {p:Int} (hp:Prime p) {n:Nat} (hn:n≤100000)
 include hp hn
theorem zWG{r s:List Int}(hr:Row p n r):tN p n r p s=r:=by
 have _:=hp;have _:=hn
 conv=>rhs;rw[uA hr.1]
 refine yC fun j hj=>?_
 have:=hr.2 j hj;rw[Ln];exact K5 this.1 (by omega)
def cl(p:Int)(n:Nat)(out:Mx)(pv:Nat→Nat)(v:List Int):Nat→List Int
 |0=>v
 |i+1=>tN p n (cl p n out pv v i) (p-at0 (cl p n out pv v i) (pv i)) (out.getD i [])
variable {out:Mx}{pv:Nat→Nat} (h:Red p n out pv) {v:List Int} (hv:Row p n v)
 include h hv
theorem zR7:∀i,Row p n (cl p n out pv v i):=by
 have _:=hn;have _:=h;intro i;cases i with
 |zero=>exact hv
 |succ i=>exact zA3 hp
theorem zWH:∀i,i≤out.length→ ∀k,k<i→at0 (cl p n out pv v i) (pv k)=0:=by
 have _:=hn;have _:=hv;have h7:=hp.pos;intro i
 induction i with
 |zero=>intro _ k hk;omega
 |succ i ih=>
  intro hi k hk;have gD:=h.lt k (by omega);rw[cl,tN,yG gD];rcases Jj k i with g|g
  ·have h1:=ih (by omega) k g
   have h2:=h.off k i (by omega) (by omega) (by omega);simp only[ent]at h2;rw[h1,h2];simp
  ·have hki:k=i:=by omega
   subst hki;have h2:=h.one k (by omega);simp only[ent]at h2;rw[h2,Lt,show at0 (cl p n out pv v k) (pv k)+(p-at0 (cl p n out pv v k) (pv k))=p from by omega,Int.emod_self]
theorem zUh:∀i,i≤out.length→ ∃cf:Nat→Int,∀j,j<n→at0 (cl p n out pv v i) j%p=(at0 v j+S out.length fun k=>cf k*ent out k j)%p:=by
 have _:=hp;have _:=h;have _:=hv;have _:=hn;intro i
 induction i with
 |zero=>intro _;exact⟨fun _=>0,fun j _=>by rw[xM (g:=fun _=>0) (fun i _=>by simp),qF,Ly];rfl⟩
 |succ i ih=>
  intro hi;obtain⟨cf,cQ⟩:=ih (by omega);refine⟨fun k=>cf k+(if k=i then p-at0 (cl p n out pv v i) (pv i)else 0),fun j hj=>?_⟩;have e1:(S out.length fun k=>(cf k+(if k=i then p-at0 (cl p n out pv v i) (pv i)else 0))*ent out k j)=(S out.length fun k=>cf k*ent out k j)+(p-at0 (cl p n out pv v i) (pv i))*ent out i j:=by rw[xM (g:=fun k=>cf k*ent out k j+(if k=i then p-at0 (cl p n out pv v i) (pv i)else 0)*ent out k j) (fun k _=>by rw[Qo]),zC6,zAd (f:=fun k=>(if k=i then p-at0 (cl p n out pv v i) (pv i)else 0)*ent out k j) (k:=i) (by omega) (fun k _ hk=>by simp[hk])];simp
  rw[e1,cl,tN,yG hj,Jy,←Int.add_assoc,Kc,cQ j hj,←Kc]
theorem zNa(hm:out.length≤100000):zUQ p out v=i7 (cl p n out pv v out.length):=by
 have h7:=hp.pos;unfold zUQ;rw[qL (by rw[hv.1];omega),bs];have:=zY (body:=zMk p out) (r:=cl p n out pv v out.length) (fun i=>(cl p n out pv v i,(i:Int))) out.length (fun i hi=>by
  have hr:=zR7 hp hn h hv i;have ho:=h.row i hi;have gD:=h.lt i hi;have gz:=h.one i hi;have fJ:=h.low i hi;simp only[ent]at gz fJ;have he:=hr.2 (pv i) gD;unfold zMk;simp only
  rw[xJ hi,zN,yX [] hi,bs,zJK ho.1 (by omega) gD fJ (by rw[gz];decide),bs,hr.1,xJ gD,zN,yW (by rw[hr.1];exact gD),bs]
  by_cases hz:at0 (cl p n out pv v i) (pv i)=0
  ·rw[zAb hz,zS,zC (by omega) (by omega),bs,cs,cl,hz,Jca,zWG hp hn hr]
  ·rw[zAc hz,zN,bs,zC (by omega) (by omega),bs,bs,tJ hp hr ho ⟨by omega,by omega⟩ (by omega),bs,zC (by omega) (by omega),bs,cs]
   rfl) (by
  unfold zMk;simp only
  rw[uH,zS])
 rw[show((0:Nat):Int)=0 from rfl]at this;simp only[cl]at this;rw[this,bs]
end
end Go.Pl

namespace Go.Pl
open Go Go.Ab Go.Wk Go.Pc
section
variable {p:Int} (hp:Prime p) {n:Nat}{out:Mx}{pv:Nat→Nat} (h:Red p n out pv) {u:List Int}{k q:Nat} (hu:Row p n u) (hk:k<n) (u1:at0 u k=1) (ul:∀j,j<k→at0 u j=0) (up:∀i,i<out.length→at0 u (pv i)=0) (hq:q≤out.length) (q1:∀i,i<q→pv i<k) (q2:∀i,q≤i→i<out.length→k<pv i)
def oth(p:Int)(n:Nat)(out:Mx)(u:List Int)(k i:Nat):List Int:=tN p n (out.getD i []) (p-at0 (out.getD i []) k) u
def sH(p:Int)(n:Nat)(out:Mx)(u:List Int)(k q i:Nat):List Int:=if i<q then oth p n out u k i else if i=q then u else oth p n out u k (i-1)
def zUi(pv:Nat→Nat)(k q i:Nat):Nat:=if i<q then pv i else if i=q then k else pv (i-1)
 include hp h hu hk u1 ul up hq q1 q2
theorem zNb{i j:Nat}(hj:j<n):at0 (oth p n out u k i) j=(at0 (out.getD i []) j-at0 (out.getD i []) k*at0 u j)%p:=by have _:=hp;have _:=h;have _:=hu;have _:=hk;have _:=u1;have _:=ul;have _:=up;have _:=hq;have _:=q1;have _:=q2;rw[oth,tN,yG hj,show at0 (out.getD i []) j+(p-at0 (out.getD i []) k)*at0 u j=at0 (out.getD i []) j-at0 (out.getD i []) k*at0 u j+p*at0 u j from by rw[Jan];omega,Ln]
theorem zED{i j:Nat}(hi:i<out.length)(hj:j<n)(hz:at0 (out.getD i []) k=0∨at0 u j=0):at0 (oth p n out u k i) j=ent out i j:=by
 rw[zNb hp h hu hk u1 ul up hq q1 q2 hj];have:=(h.row i hi).2 j hj;have e:at0 (out.getD i []) k*at0 u j=0:=by rcases hz with g|g<;>rw[g]<;>simp
 rw[e,Jca];exact K5 this.1 (by omega)
theorem zYQ{i:Nat}:at0 (oth p n out u k i) k=0:=by rw[zNb hp h hu hk u1 ul up hq q1 q2 hk,u1,Lt,Int.sub_self];rfl
theorem zUj{i j:Nat}(hi:i<out.length)(hj:j<pv i)(gf:pv i≠k):at0 (oth p n out u k i) j=0:=by
 have gD:=h.lt i hi;rcases Jj (pv i) k with g|g
 ·rw[zED hp h hu hk u1 ul up hq q1 q2 hi (by omega) (.inr (ul j (by omega)))];exact h.low i hi j hj
 ·have:=h.low i hi k (by omega)
  rw[zED hp h hu hk u1 ul up hq q1 q2 hi (by omega) (.inl this)];exact h.low i hi j hj
theorem zYR{i:Nat}(hi:i<out.length):pv i≠k:=by have _:=h;have _:=q1;have _:=q2;have _:=hp;have _:=hu;have _:=hk;have _:=ul;have _:=hq;intro e;have:=up i hi;rw[e,u1]at this;cases this
theorem zJc{i:Nat}(hi:i<out.length+1):(i=q∧sH p n out u k q i=u∧zUi pv k q i=k)∨ ∃a,a<out.length∧(i<q∧a=i∨q<i∧i=a+1)∧sH p n out u k q i=oth p n out u k a∧zUi pv k q i=pv a:=by
 have _:=hp;have _:=h;have _:=hu;have _:=hk;have _:=u1;have _:=ul;have _:=up;have _:=q1;have _:=q2;unfold sH zUi;rcases Hl i q with g|g|g
 ·exact .inr ⟨i,by omega,.inl ⟨g,rfl⟩,by rw[if_pos g],by rw[if_pos g]⟩
 ·exact .inl ⟨g,by rw[if_neg (by omega),if_pos g],by rw[if_neg (by omega),if_pos g]⟩
 ·exact .inr ⟨i-1,by omega,.inr ⟨g,by omega⟩,by rw[if_neg (by omega),if_neg (by omega)],by rw[if_neg (by omega),if_neg (by omega)]⟩
theorem zNc:Red p n (mkR (out.length+1) (sH p n out u k q)) (zUi pv k q):=by
 have nc:=fun i hi=>zJc hp h hu hk u1 ul up hq q1 q2 (i:=i) hi
 have pn:=fun i hi=>zYR hp h hu hk u1 ul up hq q1 q2 (i:=i) hi
 refine⟨fun i hi=>?_,fun i hi=>?_,fun i hi=>?_,fun i hi j hj=>?_,fun i j hi hj gf=>?_,fun i j gM hj=>?_⟩<;>rw[sC]at*
 ·rw[kF hi]
  rcases nc i hi with⟨_,e,_⟩|⟨a,_,_,e,_⟩<;>rw[e]
  ·exact hu
  ·exact zA3 hp
 ·rcases nc i hi with⟨_,_,e⟩|⟨a,ha,_,_,e⟩<;>rw[e]
  ·exact hk
  ·exact h.lt a ha
 ·rw[zEB hi]
  rcases nc i hi with⟨_,e1,e2⟩|⟨a,ha,_,e1,e2⟩<;>rw[e1,e2]
  ·exact u1
  ·rw[zED hp h hu hk u1 ul up hq q1 q2 ha (h.lt a ha) (.inr (up a ha))];exact h.one a ha
 ·rw[zEB hi]
  rcases nc i hi with⟨_,e1,e2⟩|⟨a,ha,_,e1,e2⟩<;>rw[e2]at hj<;>rw[e1]
  ·exact ul j hj
  ·exact zUj hp h hu hk u1 ul up hq q1 q2 ha hj (pn a ha)
 ·rw[zEB hj]
  rcases nc i hi with⟨g1,_,e2⟩|⟨a,ha,ga,_,e2⟩<;>rw[e2]<;>rcases nc j hj with⟨g3,e3,_⟩|⟨b,hb,gb,e3,_⟩<;>rw[e3]
  ·omega
  ·exact zYQ hp h hu hk u1 ul up hq q1 q2
  ·exact up a ha
  ·rw[zED hp h hu hk u1 ul up hq q1 q2 hb (h.lt a ha) (.inr (up a ha))]
   exact h.off a b ha hb (by omega)
 ·rcases nc i (by omega)with⟨g1,_,e2⟩|⟨a,ha,ga,_,e2⟩<;>rw[e2]<;>rcases nc j hj with⟨g3,_,e4⟩|⟨b,hb,gb,_,e4⟩<;>rw[e4]
  ·omega
  ·exact q2 b (by omega) hb
  ·exact q1 a (by omega)
  ·exact h.mono a b (by omega) hb
theorem zP0:(∀i,i<out.length+1→Sp p n (out++[u]) (sH p n out u k q i))∧(∀i,i<out.length→Sp p n (mkR (out.length+1) (sH p n out u k q)) (out.getD i []))∧Sp p n (mkR (out.length+1) (sH p n out u k q)) u:=by
 have eT:Sp p n (out++[u]) u:=by have:=qG (p:=p) (n:=n) (R:=out++[u]) (i:=out.length) (by simp);simpa[J2]using this
 have hol:∀i,i<out.length→Sp p n (out++[u]) (out.getD i []):=fun i hi=>by have:=qG (p:=p) (n:=n) (R:=out++[u]) (i:=i) (by simp;omega);simpa[J2,Ju hi]using this
 have dW:∀i,i<out.length→Sp p n (out++[u]) (oth p n out u k i):=fun i hi=>
  zAW (k:=p-at0 (out.getD i []) k) (hol i hi) eT fun j hj=>by rw[oth,tN,yG hj,Jy]
 have th:Sp p n (mkR (out.length+1) (sH p n out u k q)) u:=by have:=zBJ (p:=p) (n:=n) (m:=out.length+1) (F:=sH p n out u k q) (i:=q) (by omega);rw[show sH p n out u k q q=u from by unfold sH;rw[if_neg (by omega),if_pos rfl]]at this;exact this
 refine⟨fun i hi=>?_,fun i hi=>?_,th⟩
 ·rcases zJc hp h hu hk u1 ul up hq q1 q2 hi with⟨_,e,_⟩|⟨a,ha,_,e,_⟩<;>rw[e]
  ·exact eT
  ·exact dW a ha
 ·have eO:∃b,b<out.length+1∧sH p n out u k q b=oth p n out u k i:=by
   rcases Jj i q with g|g
   ·exact⟨i,by omega,by unfold sH;rw[if_pos g]⟩
   ·exact⟨i+1,by omega,by unfold sH;rw[if_neg (by omega),if_neg (by omega)];rfl⟩
  obtain⟨b,hb,e⟩:=eO;have h1:=zBJ (p:=p) (n:=n) (m:=out.length+1) (F:=sH p n out u k q) hb;rw[e]at h1;refine zAW (k:=at0 (out.getD i []) k) h1 th fun j hj=>?_
  rw[zNb hp h hu hk u1 ul up hq q1 q2 hj,Kc,Jy,←Kc,show at0 (out.getD i []) j-at0 (out.getD i []) k*at0 u j+at0 (out.getD i []) k*at0 u j=at0 (out.getD i []) j from by omega]
theorem zL8(hn:n≤100000)(hm:out.length≤100000){x:Int}:
  ((zJ (zIv p (out,x) (k:Int) u) ([],ia,0)).bind fun r32=>cond (!r32.2) ((xW r32.1 [u]).bind fun v33=>i7 v33) (i7 r32.1))=i7 (mkR (out.length+1) (sH p n out u k q)):=by
 have _:=u1;have _:=ul;have _:=up;have h7:=hp.pos;have ho:∀i,i<out.length→f_w p (out.getD i []) (p-at0 (out.getD i []) k) u=i7 (oth p n out u k i)∧ixO (out.getD i []) (k:Int)=i7 (at0 (out.getD i []) k)∧0≤at0 (out.getD i []) k∧at0 (out.getD i []) k≤p-1∧f_C (out.getD i [])=i7 (pv i:Int):=fun i hi=>by have hr:=h.row i hi;have fj:=hr.2 k hk;have gz:=h.one i hi;have fJ:=h.low i hi;simp only[ent]at gz fJ;exact⟨by rw[tJ hp hr hu ⟨by omega,by omega⟩ (by omega)];rfl,yW (by rw[hr.1];exact hk),fj.1,fj.2,zJK hr.1 (by omega) (h.lt i hi) fJ (by rw[gz];decide)⟩
 have tj:∀{m:Nat}{F:Nat→List Int},mkR m F++[F m]=mkR (m+1) F:=fun{m F}=>by simp[mkR,Lp]
 have:=zY (body:=zIv p (out,x) (k:Int) u) (r:=(if out.length≤q then(mkR out.length (sH p n out u k q),ia)else(mkR (out.length+1) (sH p n out u k q),i9)))
  (fun j=>if j≤q then(mkR j (sH p n out u k q),ia,(j:Int))else(mkR (j+1) (sH p n out u k q),i9,(j:Int))) out.length (fun j hj=>by
   obtain⟨a1,a2,a3,a4,a5⟩:=ho j hj;have du:rng (p-at0 (out.getD j []) k)=i7 (p-at0 (out.getD j []) k):=zC (by omega) (by omega);rcases Hl j q with g|g|g
   ·have hpj:=q1 j g
    rw[if_pos (by omega),if_pos (by omega)];unfold zIv;simp only
    rw[xJ hj,zN,Kr,zN,yX [] hj];simp only[bs,a5];rw[ib (by omega),zS,a2];simp only[bs,du,a1];rw[yT (by rw[sC];simp;omega),bs,zC (by omega) (by omega),bs,cs];have:sH p n out u k q j=oth p n out u k j:=by unfold sH;rw[if_pos g]
    rw[←this,tj]
   ·subst g
    have hpj:=q2 j (Ji _) hj;rw[if_pos (by omega),if_neg (by omega)];unfold zIv;simp only
    rw[xJ hj,zN,Kr,zN,yX [] hj];simp only[bs,a5];rw[ic (by omega),zN,yT (by rw[sC];simp;omega),a2];simp only[bs,du,a1];have e1:sH p n out u k j j=u:=by unfold sH;rw[if_neg (by omega),if_pos rfl]
    have e2:sH p n out u k j (j+1)=oth p n out u k j:=by unfold sH;rw[if_neg (by omega),if_neg (by omega)];rfl
    have e3:mkR j (sH p n out u k j)++[u]=mkR (j+1) (sH p n out u k j):=by rw[←tj,e1]
    rw[e3,yT (by rw[sC];simp;omega),bs,zC (by omega) (by omega),bs,cs,←e2,tj]
   ·rw[if_neg (by omega),if_neg (by omega)]
    unfold zIv;simp only
    rw[xJ hj,zN,K7,zS,yX [] hj];simp only[bs,a2,du,a1];have e2:sH p n out u k q (j+1)=oth p n out u k j:=by unfold sH;rw[if_neg (by omega),if_neg (by omega)];rfl
    rw[yT (by rw[sC];simp;omega),bs,zC (by omega) (by omega),bs,cs,←e2,tj]) (by
   by_cases g:out.length≤q
   ·rw[if_pos g,if_pos g]
    unfold zIv;simp only
    rw[uH,zS]
   ·rw[if_neg g,if_neg g]
    unfold zIv;simp only
    rw[uH,zS])
 rw[if_pos (Km _),show((0:Nat):Int)=0 from rfl,show mkR 0 (sH p n out u k q)=[]from rfl]at this;rw[this,bs]
 by_cases g:out.length≤q
 ·have e1:sH p n out u k q out.length=u:=by unfold sH;rw[if_neg (by omega),if_pos (by omega)]
  rw[if_pos g];simp only
  rw[Kr,zN,yT (by rw[sC];simp;omega),bs]
  congr 1
  rw[←tj,e1]
 ·rw[if_neg g]
  simp only
  rw[K7,zS]
end
end Go.Pl
