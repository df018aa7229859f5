/- The program's CoverOf returns what the reference's returns,for all arguments;no conditions. -/
import Derived.Test.YtmoaeebpmcafpaaGreatAbB
import Derived.Test.YtmoaeebpmcafpaaGreatWF
open List renaming replicate→J0,getD_eq_getElem?_getD→J2,getElem?_eq_getElem→J3,length_append→J5,length_cons→J6,length_replicate→J8,append_nil→Ja,getElem?_append_right→Jb,mem_cons→Jc,append_assoc→Jd,length_map→Je,length_nil→Jg,mem_append→Jh,range→Ji,eq_of_mem_replicate→Jm,replicate_append_replicate→Jn,getElem?_eq_none→Jp,replicate_succ→Jq,take_of_length_le→Jr,map_cons→Js,mem_map→Jt,nil_append→Ju,getElem?_eq_some_iff→Jw,getElem?_append_left→Jx,cons_append→Jy,length_take→Jz,take_succ_eq_append_getElem→K0,length_drop→K3,getElem?_map→K4,take_zero→K5,getElem_mem→Ka,getElem?_replicate→Ke,mem_range→Kh,map_append→Kj,replicate_zero→Ko,ext_getElem?→Kr,getElem?_append→Ks,length_range→Kt,take_succ_cons→Ku,range'→Kx,drop_replicate→Lb,flatMap_cons→Li,take_length→Lj,replicate_succ'→Ln,range_succ→Lo,range_eq_range'→Lp,getElem?_drop→Lr,eq_nil_of_length_eq_zero→Ls,set_cons_zero→Lw,singleton_append→Lx,getD_cons_zero→H7,map_nil→He,flatten_nil→Hn,mem_iff_getElem→Hu,drop_zero→Hv,drop_eq_getElem_cons→Hy,flatMap_append→G5,set_append_right→Ge,mem_flatMap→Gg,getD_cons_succ→U8,foldl_append→Ub,getElem?_take→Uq,drop_of_length_le→Ur,getElem?_cons_succ→Uv,map_congr_left→Qk,flatten_append→Qm,getElem_map→Qq,flatMap_nil→Qr,range_zero→Qu,getElem?_cons_zero→Qy,getElem?_set_ne→Jaa,foldl_nil→Jab,suffix_cons_iff→Jaq,map_map→Jar,range_succ_eq_map→Jb0,not_mem_nil→Jb1,take_append_drop→Jb8,length→Jbl,all_cons→Jbn,findSome?_cons→Jbr,getElem?_set→Jby,drop_append→Jc9,drop_succ_cons→Jcp,range'_succ→Jd9
open Bool renaming and_eq_true→J4,not_true→Kc,not_false→Kq,false_and→Jcs
open Int renaming toNat_natCast→J9,mul_emod→Jv,emod_emod→K9,emod_eq_of_lt→Kb,add_emod→Kf,emod_lt_of_pos→Kl,tmod_eq_emod_of_nonneg→Kz,mul_zero→L4,emod_nonneg→L5,mul_le_mul→Lu,zero_add→Lv,add_mul_emod_self_left→Ly,add_zero→H5,mul_assoc→H8,mul_one→Hf,toNat_zero→Gb,mul_nonneg→Gy,zero_mul→U6,mul_comm→U7,add_emod_right→Uk,sub_mul→Qz,mul_le_mul_of_nonneg_left→Ja0,mul_add→Ja1,add_mul→Ja2,tmod_add_mul_tdiv→Jau,tmod_lt_of_pos→Jba,lt_tmod_of_pos→Jbb,one_mul→Jbv,tmod→Jbz,add_assoc→Jc0,sub_zero→Jcq,emod_add_emod→Jcr,toNat_of_nonneg→Jda
open Nat renaming zero_add→Jf,lt_or_ge→Jj,le_refl→Jl,sub_self→Kd,zero_le→L7,div_add_mod→H3,lt_trichotomy→Hw,sub_zero→G7,min_eq_left→G8,add_zero→G9,le_trans→Gm,lt_irrefl→Jbw,zero_sub→Jcm,le_of_lt→Jco
open Option renaming map_eq_some_iff→L6,some→Ld,map_some→Ho
open Option renaming some→iz,none→iA
open Bool renaming true→iB,false→iC
namespace Go.Pc
abbrev Vec:=List Int
structure Lvl where
 o:Int
 w:Vec
 cs:List Vec
abbrev Pcp:=List Lvl
def zeros(n:Nat):Vec:=J0 n 0
def iter{α:Type}:Nat→(α→α)→α→α
 |0,_,x=>x
 |n+1,f,x=>iter n f (f x)
theorem vG{α:Type}(f:α→α):∀(n:Nat)(x:α),iter (n+1) f x=f (iter n f x)
 |0,_=>rfl
 |n+1,x=>by rw[iter,vG f n (f x)];rfl
theorem zE8{α:Type}(f:α→α)(a:Nat):∀(b:Nat)(x:α),iter (a+b) f x=iter a f (iter b f x)
 |0,_=>rfl
 |b+1,x=>by show iter (a+b) f (f x)=_;rw[zE8 f a b (f x)];rfl
def img{α:Type}(m:α→α→α):List α→Vec→α→α
 |c::cs,x::xs,acc=>img m cs xs (iter x.toNat (fun v=>m v c) acc)
 |_,_,acc=>acc
def V:Pcp→Vec→Prop
 | [],v=>v=[]
 |l::P,v=>match v with
  | []=>False
  |a::x=>(0≤a∧a<l.o)∧V P x
def mul:Pcp→Vec→Vec→Vec
 |l::P,a::x,b::y=>
  let r:=mul P (iter b.toNat (fun v=>img (mul P) l.cs v (zeros P.length)) x) y
  if a+b≥l.o then(a+b-l.o)::mul P l.w r else(a+b)::r
 |_,_,_=>[]
def Ok:Pcp→Prop
 | []=>True
 |l::P=>1<l.o∧V P l.w∧l.cs.length=P.length∧(∀c∈l.cs,V P c)∧Ok P
structure Mon {α:Type} (S:α→Prop) (m:α→α→α) (e:α):Prop where
 cl:∀{a b},S a→S b→S (m a b)
 ein:S e
 assoc:∀{a b c},S a→S b→S c→m (m a b) c=m a (m b c)
 onel:∀{a},S a→m e a=a
 oner:∀{a},S a→m a e=a
structure Grp {α:Type} (S:α→Prop) (m:α→α→α) (e:α):Prop extends Mon S m e where
 inv:∀{a},S a→ ∃b,S b∧m a b=e
theorem Grp.invl{α:Type}{S:α→Prop}{m:α→α→α}{e:α}(h:Grp S m e){a:α}(ha:S a):∃b,S b∧m a b=e∧m b a=e:=by
 obtain⟨b,hb,h1⟩:=h.inv ha;obtain⟨c,hc,h2⟩:=h.inv hb;refine⟨b,hb,h1,?_⟩;have:a=c:=by rw[←h.oner ha,←h2,←h.assoc ha hb hc,h1,h.onel hc]
 grind
theorem Grp.cancel_l{α:Type}{S:α→Prop}{m:α→α→α}{e:α}(h:Grp S m e){a b c:α}(ha:S a)(hb:S b)(hc:S c)(hh:m a b=m a c):b=c:=by obtain⟨d,hd,_,h2⟩:=h.invl ha;rw[←h.onel hb,←h.onel hc,←h2,h.assoc hd ha hb,h.assoc hd ha hc,hh]
section
variable {α:Type}{S:α→Prop}{m:α→α→α}{e:α}
def pw(m:α→α→α)(e:α)(x:α)(k:Nat):α:=iter k (fun v=>m v x) e
theorem tV(h:Mon S m e){x:α}(hx:S x):∀k,S (pw m e x k)
 |0=>h.ein
 |k+1=>by rw[pw,vG];exact h.cl (tV h hx k) hx
theorem vO{f:α→α}(hf:∀a,S a→S (f a)):∀(k:Nat){x:α},S x→S (iter k f x)
 |0,_,hx=>hx
 |k+1,_,hx=>vO hf k (hf _ hx)
theorem zE9(h:Mon S m e){x a:α}(hx:S x)(ha:S a):∀k,iter k (fun v=>m v x) a=m a (pw m e x k)
 |0=>(h.oner ha).symm
 |k+1=>by rw[vG,zE9 h hx ha k];show _=m a (iter (k+1) (fun v=>m v x) e);rw[vG];exact h.assoc ha (tV h hx k) hx
theorem zHz(h:Mon S m e){x:α}(hx:S x)(a b:Nat):pw m e x (a+b)=m (pw m e x a) (pw m e x b):=by rw[Nat.add_comm,pw,zE8,←zE9 h hx (tV h hx a) b];rfl
theorem zS4(h:Mon S m e){x:α}(hx:S x):pw m e x 1=x:=h.onel hx
theorem zS5(h:Mon S m e){x:α}(hx:S x)(k:Nat):pw m e x (k+1)=m x (pw m e x k):=by rw[Nat.add_comm,zHz h hx 1 k,zS4 h hx]
theorem jL(h:∀{a b},S a→S b→S (m a b)):∀(cs:List α)(x:Vec){a:α},(∀c∈cs,S c)→S a→S (img m cs x a)
 |c::cs,x::xs,_,hc,ha=>by simp only[img];exact jL h cs xs (by grind) (vO (by simp_all) _ ha)
 | [],_,_,_,ha=>by grind[img]
 |_::_,[],_,_,ha=>by grind[img]
theorem zFy(h:Mon S m e)(cs:List α)(x:Vec){a:α}(hc:∀c∈cs,S c)(ha:S a):S (img m cs x a):=jL h.cl cs x hc ha
theorem zEA(h:Mon S m e):∀(cs:List α)(x:Vec){a:α},(∀c∈cs,S c)→S a→img m cs x a=m a (img m cs x e)
 |c::cs,x::xs,a,hc,ha=>by
  have h1:S c:=hc c (by simp);have h2:∀c∈cs,S c:=by grind
  simp only[img];rw[zE9 h h1 ha,zEA h cs xs h2 (h.cl ha (tV h h1 _)),zE9 h h1 h.ein,zEA h cs xs h2 (h.cl h.ein (tV h h1 _)),h.onel (tV h h1 _),
   h.assoc ha (tV h h1 _) (zFy h cs xs h2 h.ein)]
 | [],_,a,_,ha=>by simp[img,h.oner ha]
 |_::_,[],a,_,ha=>by simp[img,h.oner ha]
theorem qR(h:Mon S m e){c:α}{cs:List α}{x:Int}{xs:Vec}(hc:S c)(gQ:∀c∈cs,S c):img m (c::cs) (x::xs) e=m (pw m e c x.toNat) (img m cs xs e):=by simp only[img];rw[zEA h cs xs gQ (vO (fun a ha=>h.cl ha hc) _ h.ein)];rfl
theorem qB(m:α→α→α):∀(cs:List α)(n:Nat)(a:α),img m cs (zeros n) a=a
 | [],_,_=>by simp[img]
 |_::_,0,_=>by rfl
 |c::cs,n+1,a=>by simp only[zeros,Jq,img,Gb,iter];exact qB m cs n a
theorem zH0(h:Mon S m e){g:α}(hg:S g):∀(cs ds:List α)(x:Vec),(∀c∈cs,S c)→(∀c∈ds,S c)→cs.length=ds.length→(∀(k:Nat) c d,cs[k]? =iz c→ds[k]? =iz d→m c g=m g d)→m (img m cs x e) g=m g (img m ds x e)
 | [],[],x,_,_,_,_=>by simp[img,h.onel hg,h.oner hg]
 |c::cs,d::ds,[],_,_,_,_=>by simp[img,h.onel hg,h.oner hg]
 |c::cs,d::ds,x::xs,hc,hd,hl,hp=>by
  have ek:S c:=hc c (by simp);have hd0:S d:=hd d (by simp);have gQ:∀c∈cs,S c:=by grind
  have pQ:∀c∈ds,S c:=by grind
  have key:∀k,m (pw m e c k) g=m g (pw m e d k):=by
   intro k
   induction k with
   |zero=>simp[pw,iter,h.onel hg,h.oner hg]
   |succ k ih=>
    have h0:m c g=m g d:=hp 0 c d rfl rfl;rw[pw,vG,pw,vG];show m (m (pw m e c k) c) g=m g (m (pw m e d k) d);rw[h.assoc (tV h ek k) ek hg,h0,←h.assoc (tV h ek k) hg hd0,ih,h.assoc hg (tV h hd0 k) hd0]
  rw[qR h ek gQ,qR h hd0 pQ,h.assoc (tV h ek _) (zFy h _ _ gQ h.ein) hg,zH0 h hg cs ds xs gQ pQ (by grind) (fun k c d h1 h2=>hp (k+1) c d (by grind) (by grind)),
   ←h.assoc (tV h ek _) hg (zFy h _ _ pQ h.ein),key,h.assoc hg (tV h hd0 _) (zFy h _ _ pQ h.ein)]
theorem zPi{β:Type}{T:β→Prop}{n:β→β→β}{f:β}(h:Mon S m e)(h':Mon T n f)(φ:α→β)(gO:∀a,S a→T (φ a))(h1:φ e=f)(hm:∀a b,S a→S b→φ (m a b)=n (φ a) (φ b)):∀(cs:List α)(x:Vec),(∀c∈cs,S c)→φ (img m cs x e)=img n (cs.map φ) x f
 | [],_,_=>by simp[img,h1]
 |c::cs,[],_=>by simp[img,h1]
 |c::cs,x::xs,hc=>by
  have ek:S c:=hc c (by simp);have gQ:∀c∈cs,S c:=by grind
  have key:∀k,φ (pw m e c k)=pw n f (φ c) k:=by
   intro k
   induction k with
   |zero=>grind[pw,iter]
   |succ k ih=>
    grind[pw,vG,tV]
  rw[qR h ek gQ,Js,qR h' (gO c ek) (by simp_all),hm _ _ (tV h ek _) (zFy h _ _ gQ h.ein),key,zPi h h' φ gO h1 hm cs xs gQ]
end
theorem wO:∀{P:Pcp},Ok P→V P (zeros P.length)
 | [],_=>rfl
 |l::P,h=>by simp only[Ok]at h;simp only[J6,zeros,Jq,V];exact⟨by omega,wO h.2.2.2.2⟩
theorem xK:∀{P:Pcp},Ok P→ ∀{x y:Vec},V P x→V P y→V P (mul P x y)
 | [],_,_,_,hx,hy=>by rfl
 |l::P,h,[],_,hx,_=>by grind[V]
 |l::P,h,_::_,[],_,hy=>by grind[V]
 |l::P,h,a::x,b::y,hx,hy=>by
  simp only[Ok]at h;simp only[V]at hx hy;have h1:∀v,V P v→V P (img (mul P) l.cs v (zeros P.length)):=fun v hv=>jL (xK h.2.2.2.2) l.cs v h.2.2.2.1 (wO h.2.2.2.2)
  have h2:=xK h.2.2.2.2 (vO h1 b.toNat hx.2) hy.2;simp only[mul];split
  ·exact⟨by omega,xK h.2.2.2.2 h.2.1 h2⟩
  ·exact⟨by omega,h2⟩
def Rel{α:Type}(m:α→α→α)(e:α):Pcp→List α→Prop
 | [],s=>s=[]
 |l::P,s=>match s with
  | []=>False
  |g::s=>pw m e g l.o.toNat=img m s l.w e∧(∀(k:Nat) c d,s[k]? =iz c→l.cs[k]? =iz d→m c g=m g (img m s d e))∧Rel m e P s
section
variable {α:Type}{S:α→Prop}{m:α→α→α}{e:α}
theorem yA3(h:Mon S m e):∀(P:Pcp)(s:List α),Ok P→(∀g∈s,S g)→Rel m e P s→ ∀x y,V P x→V P y→img m s (mul P x y) e=m (img m s x e) (img m s y e)
 | [],s,_,_,hr,x,y,hx,hy=>by simp only[Rel]at hr;subst hr;simp[img,h.onel h.ein]
 |l::P,[],_,_,hr,_,_,_,_=>by grind[Rel]
 |l::P,g::s,_,_,_,[],_,hx,_=>by grind[V]
 |l::P,g::s,_,_,_,_::_,[],_,hy=>by grind[V]
 |l::P,g::s,hk,hs,hr,a::x,b::y,hx,hy=>by
  simp only[Ok]at hk;simp only[Rel]at hr;simp only[V]at hx hy;obtain⟨ho,hw,gC,gQ,de⟩:=hk;obtain⟨fb,fH,pq⟩:=hr;have hg:S g:=hs g (by simp);have mm:∀c∈s,S c:=by grind
  have gj:s.length=P.length:=by
   clear fb fH hx hy hw gC gQ hs mm
   induction P generalizing s with
   |nil=>grind[Rel]
   |cons l P ih=>
    cases s with
    |nil=>grind[Rel]
    |cons c s=>grind[Rel,Ok]
  have ih:=yA3 h P s de mm pq;have hφ:∀v,S (img m s v e):=fun v=>zFy h s v mm h.ein
  have hmP:∀{a b},V P a→V P b→V P (mul P a b):=xK de;have bZ:∀v,V P v→V P (img (mul P) l.cs v (zeros P.length)):=fun v hv=>jL hmP l.cs v gQ (wO de)
  have hσ:∀v,V P v→m (img m s v e) g=m g (img m s (img (mul P) l.cs v (zeros P.length)) e):=by
   intro v hv;have key:∀(cs:List Vec)(v:Vec)(acc:Vec),(∀c∈cs,V P c)→V P acc→img m s (img (mul P) cs v acc) e=img m (cs.map fun c=>img m s c e) v (img m s acc e):=by
    intro cs
    induction cs with
    |nil=>grind[img]
    |cons c cs ihc=>
     intro v acc hc hacc;cases v with
     |nil=>simp[img]
     |cons z v=>
      have ek:V P c:=hc c (by simp);have it:∀k acc,V P acc→img m s (iter k (fun v=>mul P v c) acc) e=iter k (fun v=>m v (img m s c e)) (img m s acc e):=by
       intro k
       induction k with
       |zero=>intro acc _;rfl
       |succ k ihk=>
        simp_all[iter]
      simp only[img,Js];rw[ihc v _ (by simp_all) (vO (by grind) _ hacc),it _ _ hacc]
   rw[key l.cs v (zeros P.length) gQ (wO de),qB];refine zH0 h hg s _ v mm (by simp_all) (by grind) ?_;intro k c d hc hd;simp only[K4,L6]at hd;obtain⟨d',mA,rfl⟩:=hd
   grind
  have hσk:∀k v,V P v→m (img m s v e) (pw m e g k)=m (pw m e g k) (img m s (iter k (fun v=>img (mul P) l.cs v (zeros P.length)) v) e):=by
   intro k
   induction k with
   |zero=>intro v _;simp[pw,iter,h.onel (hφ v),h.oner (hφ v)]
   |succ k ihk=>
    intro v hv;rw[zS5 h hg,←h.assoc (hφ v) hg (tV h hg k),hσ v hv,h.assoc hg (hφ _) (tV h hg k),ihk _ (bZ v hv),←h.assoc hg (tV h hg k) (hφ _)];rfl
  have fJ:=tV h hg a.toNat;have bO:=tV h hg b.toNat;have e6:V P (iter b.toNat (fun v=>img (mul P) l.cs v (zeros P.length)) x):=vO bZ _ hx.2;have ax:m (img m (g::s) (a::x) e) (img m (g::s) (b::y) e)=m (pw m e g (a.toNat+b.toNat)) (img m s (mul P (iter b.toNat (fun v=>img (mul P) l.cs v (zeros P.length)) x) y) e):=by rw[qR h hg mm,qR h hg mm,h.assoc fJ (hφ x) (h.cl bO (hφ y)),←h.assoc (hφ x) bO (hφ y),hσk _ _ hx.2,h.assoc bO (hφ _) (hφ y),←ih _ _ e6 hy.2,←h.assoc fJ bO (hφ _),zHz h hg]
  rw[ax];simp only[mul];split
  ·rename_i hge
   rw[qR h hg mm,ih _ _ hw (hmP e6 hy.2),←fb,←h.assoc (tV h hg _) (tV h hg _) (hφ _),←zHz h hg]
   congr 2
   omega
  ·rw[qR h hg mm]
   congr 2
   omega
end
def xP(n j:Nat):Vec:=(zeros n).set j 1
def sig(P:Pcp)(l:Lvl)(v:Vec):Vec:=img (mul P) l.cs v (zeros P.length)
def wQ:Pcp→Prop
 | []=>True
 |l::P=>wQ P∧Rel (mul P) (zeros P.length) P l.cs∧sig P l l.w=l.w∧ ∀j,j<P.length→mul P l.w (iter l.o.toNat (sig P l) (xP P.length j))=mul P (xP P.length j) l.w
theorem zDg(n:Nat):xP (n+1) 0=1::zeros n:=rfl
theorem zFz(n j:Nat):xP (n+1) (j+1)=0::xP n j:=rfl
def wJ(n:Nat):List Vec:=(Ji n).map (xP n)
theorem zNr(n:Nat):wJ (n+1)=(1::zeros n)::(wJ n).map (0::·):=by
 simp only[wJ,Jb0,Js,Jar,zDg]
 congr 1
theorem zC9:∀{P:Pcp},Ok P→ ∀{j:Nat},j<P.length→V P (xP P.length j)
 | [],_,_,hj=>by simp at hj
 |l::P,h,0,_=>by grind[Ok,zDg,V,wO]
 |l::P,h,j+1,hj=>by simp only[Ok]at h;rw[J6,zFz];simp only[V];exact⟨by omega,zC9 h.2.2.2.2 (by grind)⟩
theorem zCA{l:Lvl}{P:Pcp}(h:Ok (l::P)){v:Vec}(_hv:V P v):V P (sig P l v):=by simp only[Ok]at h;exact jL (xK h.2.2.2.2) l.cs v h.2.2.2.1 (wO h.2.2.2.2)
theorem xC(l:Lvl)(P:Pcp)(a b:Int)(x y:Vec):mul (l::P) (a::x) (b::y)=if a+b≥l.o then(a+b-l.o)::mul P l.w (mul P (iter b.toNat (sig P l) x) y)else(a+b)::mul P (iter b.toNat (sig P l) x) y:=rfl
theorem zQp{n k:Nat}{c:Vec}(h:(wJ n)[k]? =iz c):k<n∧c=xP n k:=by
 simp only[wJ,K4,L6]at h
 grind
theorem normal:∀(P:Pcp),Ok P→(∀Q,Q<:+P→Mon (V Q) (mul Q) (zeros Q.length))→ ∀x,V P x→img (mul P) (wJ P.length) x (zeros P.length)=x
 | [],_,_,x,hx=>by grind[V,img,zeros]
 |l::P,_,_,[],hx=>by grind[V]
 |l::P,h,hM,a::x,hx=>by
  have hMl:=hM (l::P) (List.suffix_refl _);have hMP:=hM P (by simp);have h':=h;simp only[Ok]at h;simp only[V]at hx;rw[J6,zNr];have hz:V P (zeros P.length):=wO h.2.2.2.2;have hu0:V (l::P) (1::zeros P.length):=by grind[V]
  have fM:∀c∈(wJ P.length).map (0::·),V (l::P) c:=by
   intro c hc;simp only[wJ,Jar,Jt,Kh]at hc;obtain⟨j,hj,rfl⟩:=hc;simp only[Function.comp,V]
   grind[zC9]
  have mC:V (l::P) (zeros (P.length+1)):=by grind[wO]
  rw[show zeros (P.length+1)=zeros (l::P).length from rfl];rw[qR hMl hu0 fM];have sz:∀k:Nat,iter k (sig P l) (zeros P.length)=zeros P.length:=by
   intro k
   induction k with
   |zero=>rfl
   |succ k ih=>grind[iter,sig,qB]
  have h1:∀k:Nat,(k:Int)<l.o→pw (mul (l::P)) (zeros (l::P).length) (1::zeros P.length) k=(k:Int)::zeros P.length:=by
   intro k
   induction k with
   |zero=>intro _;rfl
   |succ k ih=>
    intro hk;rw[pw,vG];show mul (l::P) (pw (mul (l::P)) (zeros (l::P).length) (1::zeros P.length) k) (1::zeros P.length)=_;rw[ih (by omega),xC,if_neg (by omega)];rw[sz,hMP.onel hz];rfl
  have h2:∀(cs:List Vec)(y acc:Vec),(∀c∈cs,V P c)→V P acc→img (mul (l::P)) (cs.map (0::·)) y (0::acc)=0::img (mul P) cs y acc:=by
   intro cs
   induction cs with
   |nil=>grind[img]
   |cons c cs ih=>
    intro y acc hc hacc;cases y with
    |nil=>simp[img]
    |cons z y=>
     have ek:V P c:=hc c (by simp);have it:∀(k:Nat)(acc:Vec),V P acc→iter k (fun v=>mul (l::P) v (0::c)) (0::acc)=0::iter k (fun v=>mul P v c) acc:=by
      intro k
      induction k with
      |zero=>intro _ _;rfl
      |succ k ihk=>
       intro acc hacc;simp only[iter];rw[xC,if_neg (by omega)];exact ihk _ (xK h.2.2.2.2 hacc ek)
     simp only[Js,img];rw[it _ _ hacc,ih _ _ (by grind) (vO (by grind[xK]) _ hacc)]
  have pV:∀c∈wJ P.length,V P c:=by
   intro c hc;simp only[wJ,Jt,Kh]at hc;obtain⟨j,hj,rfl⟩:=hc
   grind[zC9]
  rw[h1 a.toNat (by omega),show zeros (l::P).length=0::zeros P.length from rfl,h2 _ _ _ pV hz,normal P h.2.2.2.2 (by grind) x hx.2,xC,if_neg (by omega)];simp only[Gb,iter];rw[hMP.onel hx.2]
  grind
theorem zCB:∀(P:Pcp),Ok P→wQ P→Grp (V P) (mul P) (zeros P.length)
 | [],_,_=>by
  refine⟨⟨fun _ _=>rfl,rfl,fun _ _ _=>rfl,?_,?_⟩,fun ha=>⟨[],rfl,rfl⟩⟩<;>
  ·intro a ha
   simp only[V]at ha;subst ha;rfl
 |l::P,h,hc=>by
  have h':=h;simp only[Ok]at h;simp only[wQ]at hc;obtain⟨ho,hw,gC,gQ,hP⟩:=h;obtain⟨ij,mS,aI,aE⟩:=hc;have N:=zCB P hP ij;have hM:∀Q,Q<:+P→Mon (V Q) (mul Q) (zeros Q.length):=by
   intro Q hQ;obtain⟨t,ht⟩:=hQ;have:Ok Q∧wQ Q:=by
    clear N hw gC gQ mS aI aE h'
    induction t generalizing P with
    |nil=>grind
    |cons a t ih=>
     simp at ht;subst ht;simp only[Ok]at hP;simp only[wQ]at ij
     grind
   have gE:SizeOf.sizeOf Q≤SizeOf.sizeOf P:=by
    rw[←ht]
    clear N hw gC gQ mS aI aE h' hP ij ht this
    induction t with
    |nil=>simp
    |cons a t ih=>grind
   exact(zCB Q this.1 this.2).toMon
  have hz:V P (zeros P.length):=wO hP;have σin:∀v,V P v→V P (sig P l v):=by grind[zCA]
  have σhom:∀x y,V P x→V P y→sig P l (mul P x y)=mul P (sig P l x) (sig P l y):=fun x y hx hy=>yA3 N.toMon P l.cs hP gQ mS x y hx hy
  have σz:sig P l (zeros P.length)=zeros P.length:=qB _ _ _ _;have itin:∀(k:Nat) v,V P v→V P (iter k (sig P l) v):=fun k v hv=>vO σin k hv
  have ithom:∀(k:Nat) x y,V P x→V P y→iter k (sig P l) (mul P x y)=mul P (iter k (sig P l) x) (iter k (sig P l) y):=by
   intro k
   induction k with
   |zero=>intro _ _ _ _;rfl
   |succ k ih=>simp_all[iter]
  have itz:∀k:Nat,iter k (sig P l) (zeros P.length)=zeros P.length:=by
   intro k
   induction k with
   |zero=>rfl
   |succ k ih=>grind[iter]
  have itw:∀k:Nat,iter k (sig P l) l.w=l.w:=by
   intro k
   induction k with
   |zero=>rfl
   |succ k ih=>grind[iter]
  have pV:∀c∈wJ P.length,V P c:=by
   intro c hc;simp only[wJ,Jt,Kh]at hc;obtain⟨j,hj,rfl⟩:=hc
   grind[zC9]
  have inner:∀x,V P x→mul P x l.w=mul P l.w (iter l.o.toNat (sig P l) x):=by
   intro x hx;have hnf:=normal P hP hM x hx;have aw:=zPi N.toMon N.toMon (iter l.o.toNat (sig P l)) (by grind) (itz _) (by grind) (wJ P.length) x pV;rw[←hnf,aw];refine zH0 N.toMon hw _ _ x pV (by simp_all) (by simp) ?_;intro k c d hc hd;rw[K4,L6]at hd;obtain⟨c',me,rfl⟩:=hd;rw[hc]at me;simp at me;subst me;obtain⟨hk,rfl⟩:=zQp hc
   grind
  have e:∀(x y z:Vec)(b c:Int),V P x→V P y→V P z→0≤b→0≤c→
    mul P (iter c.toNat (sig P l) (mul P (iter b.toNat (sig P l) x) y)) z=mul P (iter (b+c).toNat (sig P l) x) (mul P (iter c.toNat (sig P l) y) z)∧
    mul P (iter c.toNat (sig P l) (mul P l.w (mul P (iter b.toNat (sig P l) x) y))) z=mul P l.w (mul P (iter (b+c).toNat (sig P l) x) (mul P (iter c.toNat (sig P l) y) z))∧
    (l.o≤b+c→mul P (iter (b+c-l.o).toNat (sig P l) x) (mul P l.w (mul P (iter c.toNat (sig P l) y) z))=mul P l.w (mul P (iter (b+c).toNat (sig P l) x) (mul P (iter c.toNat (sig P l) y) z))):=by
   intro x y z b c hx hy hz hb hcc;have ik:=itin b.toNat x hx;have hcy:=itin c.toNat y hy;have hbc:iter c.toNat (sig P l) (iter b.toNat (sig P l) x)=iter (b+c).toNat (sig P l) x:=by rw[←zE8];congr 1;omega
   have io:=itin (b+c).toNat x hx;have e1:mul P (iter c.toNat (sig P l) (mul P (iter b.toNat (sig P l) x) y)) z=mul P (iter (b+c).toNat (sig P l) x) (mul P (iter c.toNat (sig P l) y) z):=by rw[ithom _ _ _ ik hy,hbc,N.assoc io hcy hz]
   refine⟨e1,?_,?_⟩
   ·rw[ithom _ _ _ hw (N.cl ik hy),itw,N.assoc hw (itin _ _ (N.cl ik hy)) hz,e1]
   ·intro hge
    have aL:=N.cl hcy hz;rw[←N.assoc (itin _ x hx) hw aL,inner _ (itin _ x hx),←zE8,N.assoc hw (itin _ x hx) aL]
    congr 3
    omega
  refine⟨⟨by grind[xK],wO h',?_,?_,?_⟩,?_⟩
  ·intro A B C hA hB hC
   match A,B,C,hA,hB,hC with
   |a::x,b::y,c::z,hA,hB,hC=>
    simp only[V]at hA hB hC;obtain⟨e1,e2,e3⟩:=e x y z b c hA.2 hB.2 hC.2 hB.1.1 hC.1.1
    by_cases c1:a+b≥l.o<;>by_cases c2:b+c≥l.o
    ·rw[xC,if_pos c1,xC l P b c,if_pos c2,xC,xC,e2,e3 c2]
     grind
    ·rw[xC,if_pos c1,xC l P b c,if_neg c2,xC,xC,e2,if_neg (by omega),if_pos (by omega)]
     grind
    ·rw[xC,if_neg c1,xC l P b c,if_pos c2,xC,xC,e1,e3 c2,if_pos (by omega),if_neg (by omega)]
     grind
    ·rw[xC,if_neg c1,xC l P b c,if_neg c2,xC,xC,e1]
     grind
  ·intro A hA
   match A,hA with
   |a::x,hA=>
    simp only[V]at hA;show mul (l::P) (0::zeros P.length) (a::x)=_;rw[xC,if_neg (by omega),itz,N.onel hA.2,Lv]
  ·intro A hA
   match A,hA with
   |a::x,hA=>
    simp only[V]at hA;show mul (l::P) (a::x) (0::zeros P.length)=_;rw[xC,if_neg (by omega)];simp only[Gb,iter];rw[N.oner hA.2,H5]
  ·intro A hA
   match A,hA with
   |a::x,hA=>
    simp only[V]at hA
    by_cases ha:a=0
    ·obtain⟨y,hy,h1⟩:=N.inv hA.2
     refine⟨0::y,by simp only[V];grind,?_⟩;rw[xC,if_neg (by omega)];simp only[Gb,iter];rw[h1,ha];rfl
    ·have t8:=itin (l.o-a).toNat x hA.2
     obtain⟨y,hy,h1⟩:=N.inv (N.cl hw t8);refine⟨(l.o-a)::y,by simp only[V];grind,?_⟩;rw[xC,if_pos (by omega),←N.assoc hw t8 hy,h1,show a+(l.o-a)-l.o=0 by omega];rfl
termination_by P=>P
end Go.Pc

namespace Go.Pl
open Go Go.Ab
theorem bs{α β:Type}(x:α)(f:α→Option β):(iz x).bind f=f x:=by simp only[Option.bind_some]
theorem zM{α:Type}(x y:α):cond iB x y=x:=by simp only[cond_true]
theorem zK{α:Type}(x y:α):cond iC x y=y:=by simp only[cond_false]
theorem zC{n:Int}(h1:-9223372036854775808≤n)(h2:n≤9223372036854775807):rng n=iz n:=by unfold rng;rw[if_pos];simp only[inR,J4,decide_eq_true_eq];omega
theorem vP{α:Type}(xs:List α)(i:Nat):ixO xs (i:Int)=xs[i]?:=by unfold ixO;rw[if_pos (by omega)];simp
theorem kN{α:Type}{xs:List α}{i:Nat}(h:i<xs.length):ixO xs (i:Int)=iz xs[i]:=by rw[vP];exact J3 h
theorem yX{n:Nat}(h:n≤68719476736):xH (n:Int)=iz n:=by unfold xH;rw[if_pos (by omega)];simp
theorem yE{α:Type}{xs ys:List α}(h:xs.length+ys.length≤68719476736):xI xs ys=iz (xs++ys):=by unfold xI;rw[if_pos h]
theorem zV{σ ρ:Type}{body:σ→Option (σ⊕ρ)}{r:ρ}(S:Nat→σ)(n:Nat)(h:∀i,i<n→body (S i)=iz (.inl (S (i+1))))(he:body (S n)=iz (.inr r)):zH body (S 0)=iz r:=by
 have key:∀k i,i+k=n→zH body (S i)=iz r:=by
  intro k
  induction k with
  |zero=>intro i hi;rw[xL,show i=n from by omega,he]
  |succ k ih=>intro i hi;rw[xL,h i (by omega)];exact ih (i+1) (by omega)
 exact key n 0 (by omega)
theorem tL{σ ρ:Type}{body:σ→Option (σ⊕ρ)}{Q:ρ→Prop}(I:Nat→σ→Prop)(n:Nat)(h:∀i s,i<n→I i s→(∃s',body s=iz (.inl s')∧I (i+1) s')∨ ∃r,body s=iz (.inr r)∧Q r)
  (he:∀s,I n s→ ∃r,body s=iz (.inr r)∧Q r){s:σ}(h0:I 0 s):∃r,zH body s=iz r∧Q r:=by
 have key:∀k i s,i+k=n→I i s→ ∃r,zH body s=iz r∧Q r:=by
  intro k
  induction k with
  |zero=>
   intro i s hi hs;obtain rfl:i=n:=by omega
   obtain⟨r,h1,h2⟩:=he s hs;exact⟨r,by rw[xL,h1],h2⟩
  |succ k ih=>
   intro i s hi hs;rcases h i s (by omega) hs with⟨s',h1,h2⟩|⟨r,h1,h2⟩
   ·rw[xL,h1];exact ih (i+1) s' (by omega) h2
   ·exact⟨r,by rw[xL,h1],h2⟩
 exact key n 0 s (by omega) h0
def zL5{ρ:Type}:Option ρ→Unit⊕ρ
 |none=>.inl ()
 |some r=>.inr r
theorem cs(i:Nat):(i:Int)+1=((i+1:Nat):Int):=by omega
theorem zJe{ρ:Type}{body:Int→Option (Int⊕(Unit⊕ρ))}(n:Nat)(t:Nat→Option ρ)(i0:Nat)(hn:i0≤n)
  (h:∀i,i0≤i→i<n→(∀j,i0≤j→j<i→t j=iA)→body (i:Int)=iz (match t i with|none=>.inl ((i+1:Nat):Int)|some r=>.inr (.inr r)))
  (he:(∀j,i0≤j→j<n→t j=iA)→body (n:Int)=iz (.inr (.inl ()))):
  zH body (i0:Int)=iz (zL5 ((Kx i0 (n-i0)).findSome? t)):=by
 have key:∀k i,i0≤i→i+k=n→(∀j,i0≤j→j<i→t j=iA)→zH body (i:Int)=iz (zL5 ((Kx i k).findSome? t)):=by
  intro k
  induction k with
  |zero=>
   intro i hi hk hp;obtain rfl:i=n:=by omega
   rw[xL,he hp];rfl
  |succ k ih=>
   intro i hi hk hp;rw[xL,h i hi (by omega) hp,Jd9,Jbr];cases ht:t i with
   |some r=>rfl
   |none=>
    simp only
    exact ih (i+1) (by omega) (by omega) fun j h1 h2=>by
     rcases Jj j i with h3|h3
     ·exact hp j h1 h3
     ·rw[show j=i from by omega];exact ht
 exact key (n-i0) i0 (Jl _) (by omega) fun j h1 h2=>by omega
theorem zS6{n:Nat}{b:Nat→Bool}:zL5 ((Kx 0 n).findSome? (fun i=>if b i then iA else iz iC))=if(Ji n).all b then .inl ()else .inr iC:=by
 have key:∀l:List Nat,zL5 (l.findSome? (fun i=>if b i then iA else iz iC))=if l.all b then .inl ()else .inr iC:=by
  intro l
  induction l with
  |nil=>rfl
  |cons x l ih=>
   rw[Jbr,Jbn];cases hb:b x
   ·rfl
   ·simpa using ih
 rw[key,Lp]
theorem zJf{body:Int→Option (Int⊕(Unit⊕Bool))}(n:Nat)(b:Nat→Bool)
  (h:∀i,i<n→(∀j,j<i→b j=iB)→body (i:Int)=iz (if b i then .inl ((i+1:Nat):Int)else .inr (.inr iC)))
  (he:(∀j,j<n→b j=iB)→body (n:Int)=iz (.inr (.inl ()))):
  zH body 0=iz (if(Ji n).all b then .inl ()else .inr iC):=by
 have:=zJe (body:=body) n (fun i=>if b i then iA else iz iC) 0 (L7 _) (fun i _ hi hp=>by
  rw[h i hi fun j hj=>by
   have:=hp j (L7 _) hj;split at this
   ·assumption
   ·cases this]
  cases b i<;>rfl) (fun hp=>he fun j hj=>by
   have:=hp j (L7 _) hj;split at this
   ·assumption
   ·cases this)
 rw[G7]at this;exact this.trans (congrArg iz (zS6 (n:=n) (b:=b)))
theorem zS7{α:Type}{xs:List α}{z:α}{i:Nat}(h:i<xs.length):(xs.take i++J0 (xs.length-i) z).set i xs[i]=xs.take (i+1)++J0 (xs.length-(i+1)) z:=by
 have h1:(xs.take i).length=i:=by rw[Jz];omega
 rw[Ge _ _ (by omega),h1,Kd,show xs.length-i=(xs.length-(i+1))+1 from by omega,Jq,Lw,K0 h];simp only[Jd,Lx]
theorem zJY{α:Type}{f:α→Option α}{body:List α×Int→Option ((List α×Int)⊕List α)}{x0:List α}{z:α}
  (hb:∀s,body s=cond (decide (s.2<(x0.length:Int))) ((ixO x0 s.2).bind fun v2=>(f v2).bind fun r3=>(ixO s.1 s.2).bind fun _=>(rng (s.2+1)).bind fun v5=>iz (.inl (s.1.set s.2.toNat r3,v5))) (iz (.inr s.1)))
  (hl:x0.length≤68719476736)(hf:∀x∈x0,f x=iz x):zH body (J0 x0.length z,0)=iz x0:=by
 have:=zV (body:=body) (r:=x0) (fun i=>(x0.take i++J0 (x0.length-i) z,(i:Int))) x0.length (fun i hi=>by
  rw[hb];simp only[iE (show((i:Int))<(x0.length:Int)from by omega),zM];rw[kN hi,vP];simp only[bs,hf _ (Ka hi)];rw[J3 (by simp;omega),bs,zC (by omega) (by omega),bs];simp only[J9,zS7 hi,cs]) (by
  rw[hb];simp only[iD (show¬((x0.length:Int))<(x0.length:Int)from by omega),zK,Lj,Kd,Ko,Ja])
 simpa using this
theorem zV6{α:Type}[BEq α]{t:α→α→Option Bool}{body:Int→Option (Int⊕(Unit⊕Bool))}{x y:List α}
  (hb:∀i,body i=cond (decide (i<(x.length:Int))) ((ixO x i).bind fun v1=>(ixO y i).bind fun v2=>(t v1 v2).bind fun r3=>cond (!r3) (iz (.inr (.inr iC))) ((rng (i+1)).bind fun v4=>iz (.inl v4))) (iz (.inr (.inl ()))))
  (hl:x.length≤68719476736)(t7:x.length=y.length)(ht:∀u∈x,∀v∈y,t u v=iz (u==v)):zH body 0=iz (if x==y then .inl ()else .inr iC):=by
 have h:=zJf (body:=body) x.length (fun i=>match x[i]?,y[i]? with|some u,iz v=>u==v|_,_=>iB) (fun i hi _=>by
  have cD:i<y.length:=by omega
  rw[hb];simp only[iE (show((i:Int))<(x.length:Int)from by omega),zM];rw[kN hi,kN cD];simp only[bs,ht _ (Ka hi) _ (Ka cD),J3 hi,J3 cD];cases x[i]==y[i]
  ·rfl
  ·simp only[Kc,zK,if_true]
   rw[zC (by omega) (by omega),cs];rfl) (fun _=>by
  rw[hb];simp only[iD (show¬((x.length:Int))<(x.length:Int)from by omega),zK])
 rw[h]
 congr 2
 have key:∀(x y:List α),x.length=y.length→((Ji x.length).all (fun i=>match x[i]?,y[i]? with|some u,iz v=>u==v|_,_=>iB))=(x==y):=by
  intro x
  induction x with
  |nil=>intro y hy;cases y with|nil=>rfl|cons _ _=>simp at hy
  |cons u x ih=>
   intro y hy;cases y with
   |nil=>simp at hy
   |cons v y=>
    rw[J6,Jb0,Jbn,List.all_map];simp only[Qy,Function.comp_def,Uv];rw[ih y (by simpa using hy)];rfl
 rw[key x y t7]
theorem zPj{α:Type}[BEq α]{t:α→α→Option Bool}{f:Option Bool}{body:Int→Option (Int⊕(Unit⊕Bool))}{x y:List α}
  (hf:f=cond ((x.length:Int) != (y.length:Int)) (iz iC) ((zH body 0).bind fun r=>match r with|.inl _=>iz iB|.inr r=>iz r))
  (hb:∀i,body i=cond (decide (i<(x.length:Int))) ((ixO x i).bind fun v1=>(ixO y i).bind fun v2=>(t v1 v2).bind fun r3=>cond (!r3) (iz (.inr (.inr iC))) ((rng (i+1)).bind fun v4=>iz (.inl v4))) (iz (.inr (.inl ()))))
  (hl:x.length≤68719476736)(ht:∀u∈x,∀v∈y,t u v=iz (u==v)):f=iz (x==y):=by
 rw[hf]
 by_cases t7:x.length=y.length
 ·rw[zV6 hb hl t7 ht]
  have:((x.length:Int) != (y.length:Int))=iC:=by simp[t7]
  rw[this];cases x==y<;>rfl
 ·have:((x.length:Int) != (y.length:Int))=iB:=by simp;omega
  rw[this];have h2:(x==y)=iC:=by
   have key:∀(x y:List α),x.length≠y.length→(x==y)=iC:=by
    intro x
    induction x with
    |nil=>intro y hy;cases y with|nil=>simp at hy|cons _ _=>rfl
    |cons u x ih=>
     intro y hy;cases y with
     |nil=>rfl
     |cons v y=>
      show(u==v&&x==y)=iC;rw[ih y (by simpa using hy),Bool.and_false]
   exact key x y t7
  rw[h2];rfl
end Go.Pl

namespace Go.Pl
open Go Go.Ab
def sm{α:Type}(c:α→Nat):List α→Nat
 | []=>0
 |x::xs=>c x+sm c xs
theorem zDh{α:Type}(c:α→Nat):∀xs ys:List α,sm c (xs++ys)=sm c xs+sm c ys
 | [],ys=>by simp[sm]
 |x::xs,ys=>by simp only[Jy,sm,zDh c xs ys];omega
theorem zGy{α:Type}(c:α→Nat){xs:List α}{i:Nat}(h:i<xs.length):sm c (xs.take (i+1))=sm c (xs.take i)+c xs[i]:=by rw[K0 h,zDh];simp[sm]
theorem zBN{α:Type}(c:α→Nat)(xs:List α)(i:Nat):sm c (xs.take i)≤sm c xs:=by have:=zDh c (xs.take i) (xs.drop i);rw[Jb8]at this;omega
theorem zS8{α:Type}(c:α→Nat){xs:List α}{x:α}(h:x∈xs):c x≤sm c xs:=by obtain⟨i,hi,rfl⟩:=Hu.1 h;have:=zGy c hi;have:=zBN c xs (i+1);omega
def szR(c:Nat)(b:Int):Int:=if(c:Int)≤b then b-c else -1
theorem zWU{α:Type}{c:α→Nat}{t:α→Int→Option Int}{f:Option Int}{body:Int×Int→Option ((Int×Int)⊕(Int⊕Int))}{xs:List α}{b:Int}
  (hf:f=(rng (b-(xs.length:Int))).bind fun v1=>cond (decide (v1<0)) (iz (-1)) ((zH body (v1,0)).bind fun r=>match r with|.inl r=>iz r|.inr r=>iz r))
  (hb:∀s,body s=cond (decide (s.2<(xs.length:Int))) ((ixO xs s.2).bind fun v2=>(t v2 s.1).bind fun r3=>cond (decide (r3<0)) (iz (.inr (.inr (-1)))) ((rng (s.2+1)).bind fun v4=>iz (.inl (r3,v4)))) (iz (.inr (.inl s.1))))
  (hl:xs.length≤9223372036854775807)(b0:0≤b)(b1:b≤1048576)(ht:∀x∈xs,∀b',0≤b'→b'≤1048576→t x b'=iz (szR (c x) b')):f=iz (szR (xs.length+sm c xs) b):=by
 rw[hf,zC (by omega) (by omega),bs]
 by_cases h0:b-(xs.length:Int)<0
 ·rw[iE h0,zM,szR,if_neg (by omega)]
 ·rw[iD h0,zK]
  obtain⟨r,h1,h2⟩:=tL (body:=body) (Q:=fun r=>(match r with|.inl r=>iz r|.inr r=>iz r)=iz (szR (xs.length+sm c xs) b)) (fun i s=>s.2=(i:Int)∧0≤s.1∧s.1=b-xs.length-sm c (xs.take i)) xs.length (fun i s hi ⟨e1,e2,e3⟩=>by
   rw[hb,e1,iE (by omega),zM,kN hi,bs,ht _ (Ka hi) _ e2 (by omega),bs];have h3:=zGy c hi;have h4:=zBN c xs (i+1);unfold szR
   by_cases h5:(c xs[i]:Int)≤s.1
   ·rw[if_pos h5,iD (by omega),zK,zC (by omega) (by omega),bs,cs]
    exact .inl ⟨_,rfl,rfl,by simp only;omega,by simp only;omega⟩
   ·rw[if_neg h5]
    refine .inr ⟨.inr (-1),rfl,?_⟩;simp only
    rw[if_neg (by omega)]) (fun s ⟨e1,e2,e3⟩=>by
   rw[hb,e1,iD (by omega),zK];rw[Lj]at e3;refine⟨_,rfl,?_⟩;simp only
   rw[szR,if_pos (by omega),e3]
   congr 1;omega) (s:=(b-(xs.length:Int),0)) ⟨rfl,by simp only;omega,by simp[sm]⟩
  rw[h1,bs,h2]
def mkL{α:Type}(m:Int→α→α)(c:α→Nat):Int→List α→List α
 |_,[]=>[]
 |k,x::xs=>m k x::mkL m c (k+c x) xs
theorem zDW{α:Type}(m:Int→α→α)(c:α→Nat):∀(xs ys:List α)(k:Int),mkL m c k (xs++ys)=mkL m c k xs++mkL m c (k+sm c xs) ys
 | [],ys,k=>by simp[mkL,sm]
 |x::xs,ys,k=>by simp only[Jy,mkL,sm,zDW m c xs ys];rw[show k+(c x:Int)+(sm c xs:Int)=k+((c x+sm c xs:Nat):Int)from by omega]
theorem uY{α:Type}(m:Int→α→α)(c:α→Nat):∀(xs:List α)(k:Int),(mkL m c k xs).length=xs.length
 | [],_=>rfl
 |x::xs,k=>by simp[mkL,uY m c xs]
theorem zPk{α:Type}(m:Int→α→α)(c:α→Nat){xs:List α}{i:Nat}(h:i<xs.length)(k:Int):(mkL m c k xs)[i]'(by rw[uY];exact h)=m (k+sm c (xs.take i)) xs[i]:=by
 have h1:xs=xs.take i++xs[i]::xs.drop (i+1):=by simp
 have h2:=zDW m c (xs.take i) (xs[i]::xs.drop (i+1)) k;rw[←h1]at h2;rw[List.getElem_of_eq h2];rw[List.getElem_append_right (by rw[uY,Jz];omega)];simp[mkL,uY,G8 (Jco h)]
theorem zF0{α:Type}{m:Int→α→α}{c:α→Nat}{t:α→Int→Option (Int×α)}{body:List α×Int×Int→Option ((List α×Int×Int)⊕(List α×Int))}{xs:List α}{k:Int}
  (hb:∀s,body s=cond (decide (s.2.2<(s.1.length:Int))) ((ixO s.1 s.2.2).bind fun v1=>(t v1 s.2.1).bind fun r2=>(rng (s.2.2+1)).bind fun v3=>iz (.inl (s.1.set s.2.2.toNat r2.2,r2.1,v3))) (iz (.inr (s.1,s.2.1))))
  (hl:xs.length≤1048576)(k0:0≤k)(k1:k+sm c xs≤9223372036854775807)(ht:∀x∈xs,∀k':Int,0≤k'→k'+c x≤9223372036854775807→t x k'=iz (k'+c x,m k' x)):zH body (xs,k,0)=iz (mkL m c k xs,k+sm c xs):=by
 have:=zV (body:=body) (r:=(mkL m c k xs,k+sm c xs)) (fun i=>(mkL m c k (xs.take i)++xs.drop i,k+sm c (xs.take i),(i:Int))) xs.length (fun i hi=>by
  have h1:=zGy c hi;have h2:=zBN c xs (i+1);have gj:(mkL m c k (xs.take i)).length=i:=by rw[uY,Jz];omega
  have hg:(mkL m c k (xs.take i)++xs.drop i)[i]? =iz xs[i]:=by rw[Jb (by omega),gj,Kd,Lr,G9,J3 hi]
  rw[hb];simp only
  rw[iE (by rw[J5,gj,K3];omega),zM,vP,hg,bs,ht _ (Ka hi) _ (by omega) (by omega),bs,zC (by omega) (by omega),bs,cs];simp only[J9];rw[Ge _ _ (by omega),gj,Kd,Hy hi,Lw,K0 hi,zDW,zDh,Jd];simp only[mkL,sm,Lx,G9];rw[show k+(sm c (xs.take i):Int)+(c xs[i]:Int)=k+((sm c (xs.take i)+c xs[i]:Nat):Int)from by omega]) (by
  rw[hb];simp only
  rw[iD (by rw[J5,uY,Jz,K3];omega),zK];simp only[Lj,List.drop_length,Ja])
 simpa[mkL,sm]using this
theorem zJg{α:Type}{m:Int→α→α}{c:α→Nat}{t:α→Int→Option Int}{f:Option Int}{xs:List α}{k:Int}{body:Int×Int→Option ((Int×Int)⊕(Int⊕Int))}
  (hf:f=(zH body (k,0)).bind fun r=>match r with|.inl r=>iz r|.inr r=>iz r)
  (hb:∀s,body s=cond (decide (s.2<((mkL m c k xs).length:Int))) ((ixO (mkL m c k xs) s.2).bind fun v1=>(t v1 s.1).bind fun r2=>cond (decide (r2<0)) (iz (.inr (.inr (-1)))) ((rng (s.2+1)).bind fun v3=>iz (.inl (r2,v3)))) (iz (.inr (.inl s.1))))
  (hl:xs.length≤1048576)(k0:0≤k)(k1:k+sm c xs≤9223372036854775807)(ht:∀x∈xs,∀k':Int,0≤k'→k'+c x≤9223372036854775807→t (m k' x) k'=iz (k'+c x)):f=iz (k+sm c xs):=by
 have:=zV (body:=body) (r:=.inl (k+sm c xs)) (fun i=>(k+sm c (xs.take i),(i:Int))) xs.length (fun i hi=>by
  have h1:=zGy c hi;have h2:=zBN c xs (i+1);rw[hb];simp only
  rw[uY,iE (by omega),zM,kN (by rw[uY];exact hi),bs,zPk m c hi,ht _ (Ka hi) _ (by omega) (by omega),bs,iD (by omega),zK,zC (by omega) (by omega),bs,cs,h1];rw[show k+(sm c (xs.take i):Int)+(c xs[i]:Int)=k+((sm c (xs.take i)+c xs[i]:Nat):Int)from by omega]) (by
  rw[hb];simp only
  rw[uY,iD (by omega),zK,Lj])
 rw[hf];simp only[K5,sm]at this;rw[show k+((0:Nat):Int)=k from by omega]at this;rw[show((0:Nat):Int)=0 from rfl]at this;rw[this];rfl
end Go.Pl

namespace Go.Pl
open Go Go.Ab Go.Wk
abbrev VI(n:Int):Prop:=(Lit.int .i64 n).wf=iB
abbrev VL{α:Type}(V:α→Prop)(xs:List α):Prop:=xs.length≤maxLen∧ ∀x∈xs,V x
abbrev c1(x:List Int):Nat:=x.length
abbrev c2(x:List (List Int)):Nat:=x.length+sm c1 x
abbrev c3(x:List (List (List Int))):Nat:=x.length+sm c2 x
theorem zL6{x:List Int}{b:Int}(hl:x.length≤9223372036854775807)(b0:0≤b)(b1:b≤1048576):zTA x b=iz (szR (c1 x) b):=by
 unfold zTA szR;rw[zC (by omega) (by omega),bs]
 grind
theorem zJh{x:List (List Int)}{b:Int}(h:VL (VL VI) x)(b0:0≤b)(b1:b≤1048576):zVY x b=iz (szR (c2 x) b):=
 zWU (c:=c1) rfl (fun _=>rfl) h.1 b0 b1 fun y hy _ h1 h2=>zL6 (h.2 y hy).1 h1 h2
theorem zNs{x:List (List (List Int))}{b:Int}(h:VL (VL (VL VI)) x)(b0:0≤b)(b1:b≤1048576):zYK x b=iz (szR (c3 x) b):=
 zWU (c:=c2) rfl (fun _=>rfl) h.1 b0 b1 (by grind[zJh])
abbrev S1(x:List Int):Prop:=c1 x≤1048576
abbrev S2(x:List (List Int)):Prop:=c2 x≤1048576
abbrev S3(x:List (List (List Int))):Prop:=c3 x≤1048576
theorem S2.mem{x:List (List Int)}(h:S2 x){y:List Int}(hy:y∈x):S1 y:=by
 have:=zS8 c1 hy
 grind
theorem S3.mem{x:List (List (List Int))}(h:S3 x){y:List (List Int)}(hy:y∈x):S2 y:=by
 have:=zS8 c2 hy
 grind
theorem S1.len{x:List Int}(h:S1 x):x.length≤1048576:=h
theorem S2.len{x:List (List Int)}(h:S2 x):x.length≤1048576:=by grind
theorem S3.len{x:List (List (List Int))}(h:S3 x):x.length≤1048576:=by grind
theorem zL7{x:List Int}(h:S1 x):zQO x=iz x:=by unfold zQO;rw[yX (Gm h (by decide)),bs,zJY (body:=zTB x) (f:=iz) (fun _=>rfl) (by grind) (fun _ _=>rfl),bs]
theorem zJi{x:List (List Int)}(h:S2 x):zQP x=iz x:=by unfold zQP;rw[yX (by grind),bs,zJY (body:=zTC x) (f:=zQO) (fun _=>rfl) (by grind) (fun _ hx=>zL7 (h.mem hx)),bs]
theorem zNt{x:List (List (List Int))}(h:S3 x):zWa x=iz x:=by unfold zWa;rw[yX (by grind),bs,zJY (body:=zTD x) (f:=zQP) (fun _=>rfl) (by grind) (fun _ hx=>zJi (h.mem hx)),bs]
theorem zL8{x y:List Int}(h:S1 x):zUx x y=iz (x==y):=
 zPj (t:=fun u v=>iz (u==v)) (body:=zUw x y) rfl (fun _=>rfl) (by grind) fun _ _ _ _=>rfl
theorem zJj{x y:List (List Int)}(h:S2 x):zUz x y=iz (x==y):=
 zPj (t:=zUx) (body:=zUy x y) rfl (fun _=>rfl) (by grind) fun _ hu _ _=>zL8 (h.mem hu)
theorem zNu{x y:List (List (List Int))}(h:S3 x):zYU x y=iz (x==y):=
 zPj (t:=zUz) (body:=zU0 x y) rfl (fun _=>rfl) (by grind) fun _ hu _ _=>zJj (h.mem hu)
def m1(k:Int)(x:List Int):List Int:=mkL (fun k _=>k) (fun _=>1) k x
def m2(k:Int)(x:List (List Int)):List (List Int):=mkL m1 c1 k x
def m3(k:Int)(x:List (List (List Int))):List (List (List Int)):=mkL m2 (sm c1) k x
theorem zNv{α:Type}:∀xs:List α,sm (fun _=>1) xs=xs.length
 | []=>rfl
 |x::xs=>by simp[sm,zNv xs];omega
theorem zH1{x:List Int}{k:Int}(h:S1 x)(k0:0≤k)(k1:k+c1 x≤9223372036854775807):zQV x k=iz (k+c1 x,m1 k x):=by have h1:=zNv x;have:=zF0 (m:=fun k _=>k) (c:=fun _=>1) (t:=fun v k=>(rng (k+1)).bind fun v2=>iz (v2,k)) (body:=zPV) (xs:=x) (k:=k) (by grind[zPV]) h.len k0 (by grind) (by grind[zC]);unfold zQV;rw[this,bs,h1];rfl
theorem zGb{x:List (List Int)}{k:Int}(h:S2 x)(k0:0≤k)(k1:k+sm c1 x≤9223372036854775807):zQW x k=iz (k+sm c1 x,m2 k x):=by unfold zQW;rw[zF0 (body:=zU1) (m:=m1) (c:=c1) (t:=zQV) (fun _=>rfl) h.len k0 k1 fun y hy _ h1 h2=>zH1 (h.mem hy) h1 h2,bs];rfl
theorem zJZ{x:List (List (List Int))}{k:Int}(h:S3 x)(k0:0≤k)(k1:k+sm (sm c1) x≤9223372036854775807):zWj x k=iz (k+sm (sm c1) x,m3 k x):=by unfold zWj;rw[zF0 (body:=zU2) (m:=m2) (c:=sm c1) (t:=zQW) (fun _=>rfl) h.len k0 k1 fun y hy _ h1 h2=>zGb (h.mem hy) h1 h2,bs];rfl
theorem zH2{x:List Int}{k:Int}(h:S1 x)(k0:0≤k)(k1:k+c1 x≤9223372036854775807):f_X (m1 k x) k=iz (k+c1 x):=by
 have hl:=h.len;have uw:(m1 k x).length=x.length:=uY _ _ _ _;have:=zV (body:=zU4 (m1 k x)) (r:=.inl (k+c1 x)) (fun i=>(k+(i:Int),(i:Int))) x.length (fun i hi=>by
  have hg:(m1 k x)[i]'(by omega)=k+sm (fun _=>1) (x.take i):=zPk _ _ hi _;unfold zU4;rw[iE (by omega),zM,kN (by rw[uw];exact hi),bs,hg,zNv,Jz,G8 (by omega),show(k+(i:Int) != k+(i:Int))=iC from by simp,zK,zC (by omega) (by grind),bs,zC (by omega) (by omega),bs,cs]
  grind) (by
  unfold zU4
  grind)
 unfold f_X
 grind
theorem zGc{x:List (List Int)}{k:Int}(h:S2 x)(k0:0≤k)(k1:k+sm c1 x≤9223372036854775807):zU6 (m2 k x) k=iz (k+sm c1 x):=
 zJg (body:=zU5 (m2 k x)) (m:=m1) (c:=c1) (t:=f_X) rfl (fun _=>rfl) h.len k0 k1 fun _ hy _ h1 h2=>zH2 (h.mem hy) h1 h2
theorem zKa{x:List (List (List Int))}{k:Int}(h:S3 x)(k0:0≤k)(k1:k+sm (sm c1) x≤9223372036854775807):zYV (m3 k x) k=iz (k+sm (sm c1) x):=
 zJg (body:=zU7 (m3 k x)) (m:=m2) (c:=sm c1) (t:=zU6) rfl (fun _=>rfl) h.len k0 k1 fun _ hy _ h1 h2=>zGc (h.mem hy) h1 h2
def zPl(x:SPr):Prop:=VL VI x.zA∧VL (VL VI) x.zR∧VL (VL (VL VI)) x.zE
def zL9(x:SPr):Nat:=c1 x.zA+c2 x.zR+c3 x.zE
def zAB(x:SPr):Prop:=S1 x.zA∧S2 x.zR∧S3 x.zE
theorem zLA{a b:Nat}{n:Int}:(szR a n<0∧szR (a+b) n= -1)∨(0≤szR a n∧szR a n≤n∧szR b (szR a n)=szR (a+b) n∧(a:Int)≤n)∨n<0:=by unfold szR;omega
theorem zH3{x:SPr}{b:Int}(h:zPl x)(b0:0≤b)(b1:b≤1048576):zVZ x b=iz (szR (zL9 x) b):=by
 obtain⟨h1,h2,h3⟩:=h;unfold zVZ zL9;rw[zL6 h1.1 b0 b1,bs];rcases zLA (a:=c1 x.zA) (b:=c2 x.zR+c3 x.zE) (n:=b)with⟨g1,g2⟩|⟨g1,g2,g3,g4⟩|g1
 ·grind
 ·rw[iD (by omega),zK,zJh h2 g1 (by omega),bs,Nat.add_assoc,←g3]
  generalize szR (c1 x.zA) b=b' at g1 g2
  rcases zLA (a:=c2 x.zR) (b:=c3 x.zE) (n:=b')with⟨k1,k2⟩|⟨k1,k2,k3,k4⟩|k1
  ·grind
  ·rw[iD (by omega),zK,zNs h3 k1 (by omega),bs,←k3]
   generalize szR (c2 x.zR) b'=b'' at k1 k2
   unfold szR
   grind
  ·omega
 ·omega
theorem zV7{c:Nat}{b:Int}(b0:0≤b)(b1:b≤1048576):(decide (szR c b<0)=iB)∨(decide (szR c b<0)=iC∧0≤szR c b∧szR c b≤1048576∧c≤1048576):=by
 unfold szR
 grind
theorem zAB.of{x:SPr}(h:zL9 x≤1048576):zAB x:=by unfold zL9 at h;exact⟨by omega,by omega,by omega⟩
theorem zH4{x:SPr}(h:zAB x):zOe x=iz x:=by unfold zOe;rw[zL7 h.1,bs,zJi h.2.1,bs,zNt h.2.2,bs]
theorem zAC{x:SPr}(h:zAB x):zOm x x=iz iB:=by unfold zOm;rw[zL8 h.1,bs,zJj h.2.1,bs,zNu h.2.2,bs];simp
theorem zS9{x:List (List Int)}:sm c1 x≤c2 x:=by simp
theorem zPm{α:Type}{f g:α→Nat}(h:∀x,f x≤g x):∀xs:List α,sm f xs≤sm g xs
 | []=>Jl _
 |x::xs=>by have:=zPm h xs;grind[sm]
theorem zYf{x:List (List (List Int))}:sm (sm c1) x≤c3 x:=by
 have:=zPm (f:=sm c1) (g:=c2) (fun _=>zS9) x
 grind
end Go.Pl

namespace Go.Pl
open Go Go.Ab Go.Wk
def IsB(o:Option Bool)(P:Prop):Prop:=(o=iz iB∧P)∨(o=iz iC∧ ¬P)
theorem IsB.iff{o:Option Bool}{P Q:Prop}(h:IsB o P)(d7:P↔Q):IsB o Q:=by
 rcases h with⟨h1,h2⟩|⟨h1,h2⟩
 ·exact .inl ⟨h1,d7.1 h2⟩
 ·exact .inr ⟨h1,fun h=>h2 (d7.2 h)⟩
theorem IsB.of_bool{b:Bool}{P:Prop}(h:b=iB↔P):IsB (iz b) P:=by
 cases b
 ·exact .inr ⟨rfl,fun hp=>by have:=h.2 hp;cases this⟩
 ·exact .inl ⟨rfl,h.1 rfl⟩
theorem chk{ρ:Type}{body:Int→Option (Int⊕(Unit⊕ρ))}(n i0:Nat)(hn:i0≤n)(P:Nat→Prop)(bad:Nat→ρ)
  (h:∀i,i0≤i→i<n→(∀j,i0≤j→j<i→P j)→(body (i:Int)=iz (.inl ((i+1:Nat):Int))∧P i)∨(body (i:Int)=iz (.inr (.inr (bad i)))∧ ¬P i))
  (he:body (n:Int)=iz (.inr (.inl ()))):
  (zH body (i0:Int)=iz (.inl ())∧ ∀j,i0≤j→j<n→P j)∨ ∃i,i0≤i∧i<n∧zH body (i0:Int)=iz (.inr (bad i))∧ ¬P i:=by
 have key:∀k i,i0≤i→i+k=n→(∀j,i0≤j→j<i→P j)→(zH body (i:Int)=iz (.inl ())∧ ∀j,i0≤j→j<n→P j)∨ ∃q,i0≤q∧q<n∧zH body (i:Int)=iz (.inr (bad q))∧ ¬P q:=by
  intro k
  induction k with
  |zero=>
   intro i hi hk hp;obtain rfl:i=n:=by omega
   exact .inl ⟨by rw[xL,he],hp⟩
  |succ k ih=>
   intro i hi hk hp;rcases h i hi (by omega) hp with⟨h1,h2⟩|⟨h1,h2⟩
   ·have:=ih (i+1) (by omega) (by omega) fun j a b=>by
     rcases Jj j i with c|c
     ·exact hp j a c
     ·rw[show j=i from by omega];exact h2
    rw[xL,h1];exact this
   ·exact .inr ⟨i,hi,by omega,by rw[xL,h1],h2⟩
 exact key (n-i0) i0 (Jl _) (by omega) fun j a b=>by omega
theorem zDX{f:Option Bool}{body:Int→Option (Int⊕(Unit⊕Bool))}(n:Nat)(P:Nat→Prop)
  (hf:f=(zH body 0).bind fun r=>match r with|.inl _=>iz iB|.inr r=>iz r)
  (h:∀i,i<n→(∀j,j<i→P j)→(body (i:Int)=iz (.inl ((i+1:Nat):Int))∧P i)∨(body (i:Int)=iz (.inr (.inr iC))∧ ¬P i))
  (he:body (n:Int)=iz (.inr (.inl ()))):IsB f (∀i,i<n→P i):=by
 rcases chk n 0 (L7 _) P (fun _=>iC) (fun i _ hi hp=>h i hi fun j hj=>hp j (L7 _) hj) he with⟨h1,h2⟩|⟨i,_,hi,h1,h2⟩
 ·refine .inl ⟨?_,fun i hi=>h2 i (L7 _) hi⟩
  rw[hf];rw[show((0:Nat):Int)=0 from rfl]at h1;rw[h1,bs]
 ·refine .inr ⟨?_,fun hp=>h2 (hp i hi)⟩
  rw[hf];rw[show((0:Nat):Int)=0 from rfl]at h1;rw[h1,bs]
theorem zBO{o:Option Bool}{P:Prop}{ρ:Type}{bad:ρ}{i:Nat}{g:Option (Int⊕(Unit⊕ρ))}(h:IsB o P)(hi:i<9223372036854775807)
  (hg:g=o.bind fun r=>cond (!r) (iz (.inr (.inr bad))) ((rng ((i:Int)+1)).bind fun v=>iz (.inl v))):(g=iz (.inl ((i+1:Nat):Int))∧P)∨(g=iz (.inr (.inr bad))∧ ¬P):=by
 subst hg;rcases h with⟨h1,h2⟩|⟨h1,h2⟩
 ·refine .inl ⟨?_,h2⟩
  rw[h1,bs,Kc,zK,zC (by omega) (by omega),bs,cs]
 ·refine .inr ⟨?_,h2⟩
  rw[h1,bs,Kq,zM]
theorem yY{i n:Nat}(h:i<n):decide ((i:Int)<(n:Int))=iB:=iE (by omega)
theorem xR{n:Nat}:decide ((n:Int)<(n:Int))=iC:=iD (by omega)
theorem zGd(x a b:Int):IsB (zWf x a b) (a≤x∧x≤b):=by
 unfold zWf
 by_cases h:x≥a
 ·rw[iE h,zM];exact IsB.of_bool (by simp;omega)
 ·rw[iD h,zK];exact .inr ⟨rfl,by omega⟩
theorem zLB(x a b:Int):IsB (zYM x a b) (a≤x∧x≤b):=zGd x a b
def Prime(p:Int):Prop:=p=2∨p=3∨p=5∨p=7
theorem zH5(x:Int):IsB (zWe x) (Prime x):=by
 unfold zWe Prime
 by_cases h2:x=2
 ·subst h2;exact .inl ⟨rfl,.inl rfl⟩
 ·rw[show(x==2)=iC from by simpa using h2,zK]
  by_cases h3:x=3
  ·subst h3;exact .inl ⟨rfl,.inr (.inl rfl)⟩
  ·rw[show(x==3)=iC from by simpa using h3,zK]
   by_cases h5:x=5
   ·subst h5;exact .inl ⟨rfl,.inr (.inr (.inl rfl))⟩
   ·rw[show(x==5)=iC from by simpa using h5,zK]
    exact IsB.of_bool (by simp;omega)
theorem zNw(x:Int):IsB (zYL x) (Prime x):=zH5 x
abbrev at0(v:List Int)(i:Nat):Int:=v.getD i 0
theorem yQ{v:List Int}{i:Nat}(h:i<v.length):ixO v (i:Int)=iz (at0 v i):=by rw[kN h,at0,J2,J3 h];rfl
def zYg(os v:List Int):Prop:=v.length=os.length∧ ∀i,i<v.length→0≤at0 v i∧at0 v i≤at0 os i-1
def Exp(os v:List Int)(k:Nat):Prop:=zYg os v∧ ∀i,i≤k→at0 v i=0
def Os(os:List Int):Prop:=os.length≤9∧ ∀i,i<os.length→Prime (at0 os i)
theorem Prime.pos{p:Int}(h:Prime p):2≤p∧p≤7:=by unfold Prime at h;omega
theorem zF1{x:SPr}{v:List Int}(ho:Os x.zA):IsB (zWg x v) (zYg x.zA v):=by
 unfold zWg
 by_cases h:v.length=x.zA.length
 ·rw[show((v.length:Int) != (x.zA.length:Int))=iC from by simp[h],zK]
  have h6:=ho.1;refine(zDX v.length (fun i=>0≤at0 v i∧at0 v i≤at0 x.zA i-1) rfl (fun i hi _=>?_) ?_).iff ⟨fun g=>⟨h,g⟩,fun g=>g.2⟩
  ·have hp:=(ho.2 i (by omega)).pos
   refine zBO (zGd _ _ _) (by omega) ?_;unfold zPU;rw[yY hi,zM,yQ hi,bs,yQ (by omega),bs,zC (by omega) (by omega),bs]
  ·unfold zPU
   rw[xR,zK]
 ·rw[show((v.length:Int) != (x.zA.length:Int))=iB from by simp;omega,zM]
  exact .inr ⟨rfl,fun g=>h g.1⟩
theorem zLC{v:List Int}(hl:v.length≤9):IsB (f_Y v) (∀i,i<v.length→at0 v i=0):=by
 refine zDX v.length (fun i=>at0 v i=0) rfl (fun i hi _=>?_) ?_
 ·refine zBO (o:=iz (at0 v i==0)) (IsB.of_bool (by simp)) (by omega) ?_
  unfold zQS;rw[yY hi,zM,yQ hi,bs,bs];rfl
 ·unfold zQS
  rw[xR,zK]
theorem zCi{x:SPr}{k:Nat}{v:List Int}(ho:Os x.zA)(hk:k<x.zA.length):IsB (zTR x k v) (Exp x.zA v k):=by
 have h6:=ho.1;unfold zTR;rcases zF1 (v:=v) ho with⟨h1,h2⟩|⟨h1,h2⟩
 ·have hl:=h2.1
  rw[h1,bs,zM,zC (by omega) (by omega),bs];have hs:yB v 0 ((k:Int)+1)=iz (v.take (k+1)):=by
   unfold yB;rw[if_pos (by omega)];simp only[Gb,Hv,G7]
   congr 2
  rw[hs,bs];have hb:=zLC (v:=v.take (k+1)) (by rw[Jz];omega);have fq:(∀i,i<(v.take (k+1)).length→at0 (v.take (k+1)) i=0)↔Exp x.zA v k:=by
   have e:∀i,i≤k→at0 (v.take (k+1)) i=at0 v i:=fun i hi=>by simp only[at0,J2,Uq];rw[if_pos (by omega)]
   rw[Jz,G8 (by omega)];exact⟨fun g=>⟨h2,fun i hi=>by rw[←e i hi];exact g i (by omega)⟩,fun g i hi=>by rw[e i (by omega)];exact g.2 i (by omega)⟩
  rcases hb.iff fq with⟨g1,g2⟩|⟨g1,g2⟩
  ·rw[g1,bs];exact .inl ⟨rfl,g2⟩
  ·rw[g1,bs];exact .inr ⟨rfl,g2⟩
 ·rw[h1,bs,zK]
  exact .inr ⟨rfl,fun g=>h2 g.1⟩
theorem zCC{os v:List Int}{k:Nat}(ho:Os os)(hk:k<os.length):IsB (zTE os v k) (Exp os v k):=by
 have h6:=ho.1;unfold zTE
 by_cases h:v.length=os.length
 ·rw[show((v.length:Int) != (os.length:Int))=iC from by simp[h],zK]
  refine(zDX v.length (fun i=>(0≤at0 v i∧at0 v i≤at0 os i-1)∧(i≤k→at0 v i=0)) rfl (fun i hi _=>?_) ?_).iff ⟨fun g=>⟨⟨h,fun i hi=>(g i hi).1⟩,fun i hi=>(g i (by omega)).2 hi⟩,fun g i hi=>⟨g.1.2 i hi,fun hk=>g.2 i hk⟩⟩
  ·have hp:=(ho.2 i (by omega)).pos
   unfold zPS;rw[yY hi,zM,yQ hi,bs,yQ (by omega),bs,zC (by omega) (by omega),bs];rcases zLB (at0 v i) 0 (at0 os i-1)with⟨h1,h2⟩|⟨h1,h2⟩
   ·rw[h1,bs,Kc,zK]
    by_cases h3:(i:Int)≤(k:Int)
    ·rw[iE h3,zM,bs]
     by_cases h4:at0 v i=0
     ·rw[show(at0 v i != 0)=iC from by simp only[h4];rfl,zK,zC (by omega) (by omega),bs,cs]
      exact .inl ⟨rfl,h2,fun _=>h4⟩
     ·rw[show(at0 v i != 0)=iB from by simpa using h4,zM]
      exact .inr ⟨rfl,fun g=>h4 (g.2 (by omega))⟩
    ·rw[iD h3,zK,zC (by omega) (by omega),bs,cs]
     exact .inl ⟨rfl,h2,fun g=>absurd (by omega) h3⟩
   ·rw[h1,bs,Kq,zM]
    exact .inr ⟨rfl,fun g=>h2 g.1⟩
  ·unfold zPS
   rw[xR,zK]
 ·rw[show((v.length:Int) != (os.length:Int))=iB from by simp;omega,zM]
  exact .inr ⟨rfl,fun g=>h g.1.1⟩
end Go.Pl

namespace Go.Pl
open Go Go.Ab Go.Wk
theorem yBA{σ ρ:Type}{body:σ→Option (σ⊕(Unit⊕ρ))}(S:Nat→σ)(n i0:Nat)(hn:i0≤n)(P:Nat→Prop)(bad:Nat→ρ)
  (h:∀i,i0≤i→i<n→(∀j,i0≤j→j<i→P j)→(body (S i)=iz (.inl (S (i+1)))∧P i)∨(body (S i)=iz (.inr (.inr (bad i)))∧ ¬P i))
  (he:body (S n)=iz (.inr (.inl ()))):
  (zH body (S i0)=iz (.inl ())∧ ∀j,i0≤j→j<n→P j)∨ ∃i,i0≤i∧i<n∧zH body (S i0)=iz (.inr (bad i))∧ ¬P i:=by
 have key:∀k i,i0≤i→i+k=n→(∀j,i0≤j→j<i→P j)→(zH body (S i)=iz (.inl ())∧ ∀j,i0≤j→j<n→P j)∨ ∃q,i0≤q∧q<n∧zH body (S i)=iz (.inr (bad q))∧ ¬P q:=by
  intro k
  induction k with
  |zero=>
   intro i hi hk hp;obtain rfl:i=n:=by omega
   grind[xL]
  |succ k ih=>
   intro i hi hk hp;rcases h i hi (by omega) hp with⟨h1,h2⟩|⟨h1,h2⟩
   ·have:=ih (i+1) (by omega) (by omega) (by grind)
    rw[xL,h1];exact this
   grind[xL]
 exact key (n-i0) i0 (Jl _) (by omega) fun j a b=>by omega
theorem zCD{a b:Int}(h:a=b):(a != b)=iC:=by simp[h]
theorem zCj{a b:Int}(h:a≠b):(a != b)=iB:=by simp[h]
def pr(os:List Int):Nat→Int
 |0=>1
 |i+1=>pr os i*at0 os i
def cp(os:List Int):Nat→Int
 |0=>1
 |i+1=>if cp os i≤729 then cp os i*at0 os i else cp os i
theorem zF2{os:List Int}:∀{i:Nat},(∀j,j<i→Prime (at0 os j))→1≤pr os i
 |0,_=>by simp[pr]
 |i+1,h=>by have h1:=zF2 (os:=os) (i:=i) (by grind);have h2:=(h i (by omega)).pos;simp only[pr];have:(1:Int)*1≤pr os i*at0 os i:=Lu h1 (by omega) (by omega) (by omega);omega
theorem zPn{os:List Int}{i:Nat}(h:∀j,j≤i→Prime (at0 os j)):pr os i≤pr os (i+1):=by have h1:=zF2 (os:=os) (i:=i) (by grind);have h2:=(h i (Jl _)).pos;simp only[pr];have:pr os i*1≤pr os i*at0 os i:=Ja0 (by omega) (by omega);omega
theorem zKb{os:List Int}{n:Nat}(h:∀j,j<n→Prime (at0 os j)):∀k,k≤n→pr os (n-k)≤pr os n
 |0,_=>Int.le_refl _
 |k+1,hk=>by
  have h1:=zKb h k (by omega);have h2:=zPn (os:=os) (i:=n-(k+1)) (by grind)
  grind
theorem zSA{os:List Int}:∀{i:Nat},(∀j,j<i→Prime (at0 os j))→(cp os i=pr os i∧pr os i≤729∨729<cp os i∧cp os i≤5103∧729<pr os i)
 |0,_=>by simp[cp,pr]
 |i+1,h=>by
  have h0:∀j,j<i→Prime (at0 os j):=by grind
  have h2:=(h i (by omega)).pos;have h3:=zPn (os:=os) (i:=i) (by grind);have ud:=zF2 h0;simp only[cp];rcases zSA h0 with⟨h1,h4⟩|⟨h1,h4,h5⟩
  ·rw[h1,if_pos h4]
   have h6:pr os i*at0 os i≤729*7:=Lu h4 h2.2 (by omega) (by omega);simp only[pr]at h3 ⊢
   grind
  omega
def zGe(x:SPr)(i:Nat):Prop:=Exp x.zA (x.zR.getD i []) i∧(x.zE.getD i []).length+i+1=x.zA.length∧ ∀j,j<(x.zE.getD i []).length→Exp x.zA ((x.zE.getD i []).getD j []) i
structure zGf (x:SPr):Prop where
 os:True∧ ∀i,i<x.zA.length→Prime (at0 x.zA i)
 pl:x.zR.length=x.zA.length
 cl:x.zE.length=x.zA.length
 tl:∀i,i<x.zA.length→zGe x i
structure Pres (x:SPr):Prop where
 os:Os x.zA
 pl:x.zR.length=x.zA.length
 cl:x.zE.length=x.zA.length
 tl:∀i,i<x.zA.length→zGe x i
theorem Pres.w{x:SPr}(h:Pres x):zGf x:=⟨⟨trivial,h.os.2⟩,h.pl,h.cl,h.tl⟩
structure zCk (x:SPr):Prop extends Pres x where
 n6:x.zA.length≤6
 pr:pr x.zA x.zA.length≤729
theorem yR{α:Type}{v:List α}{i:Nat}(d:α)(h:i<v.length):ixO v (i:Int)=iz (v.getD i d):=by grind[kN]
theorem zNx{x:SPr}(ho:Os x.zA)(hp:x.zR.length=x.zA.length)(hc:x.zE.length=x.zA.length){i:Nat}(hi:i<x.zA.length):
  (zOj x i=iz (.inl ((i+1:Nat):Int))∧zGe x i)∨(zOj x i=iz (.inr (.inr iC))∧ ¬zGe x i):=by
 have h6:=ho.1;unfold zOj;rw[yY hi,zM,yR [] (by omega),bs];rcases zCi (v:=x.zR.getD i []) ho hi with⟨h1,h2⟩|⟨h1,h2⟩
 ·rw[h1,bs,Kc,zK,yR [] (by omega),bs,zC (by omega) (by omega),bs,zC (by omega) (by omega),bs]
  by_cases hl:(x.zE.getD i []).length+i+1=x.zA.length
  ·rw[zCD (by omega),zK,bs]
   rcases chk (body:=zTS x i (x.zE.getD i [])) (x.zE.getD i []).length 0 (L7 _) (fun j=>Exp x.zA ((x.zE.getD i []).getD j []) i) (fun _=>iC) (fun j _ hj _=>by
     refine zBO (zCi ho hi) (by omega) ?_;unfold zTS;rw[yY hj,zM,yR [] hj,bs]) (by
     unfold zTS;simp)with⟨g1,g2⟩|⟨j,_,hj,g1,g2⟩
   ·rw[show((0:Nat):Int)=0 from rfl]at g1
    rw[g1,bs];simp only
    rw[zC (by omega) (by omega),bs,cs];exact .inl ⟨rfl,h2,hl,by grind⟩
   ·rw[show((0:Nat):Int)=0 from rfl]at g1
    rw[g1,bs];exact .inr ⟨rfl,fun g=>g2 (g.2.2 j hj)⟩
  ·rw[zCj (by omega),zM]
   exact .inr ⟨rfl,fun g=>hl g.2.1⟩
 ·rw[h1,bs,Kq,zM]
  exact .inr ⟨rfl,fun g=>h2 g.1⟩
theorem zNy{x:SPr}(ho:Os x.zA)(hp:x.zR.length=x.zA.length)(hc:x.zE.length=x.zA.length){i:Nat}(hi:i<x.zA.length):
  (zOf x i=iz (.inl ((i+1:Nat):Int))∧zGe x i)∨(zOf x i=iz (.inr (.inr iC))∧ ¬zGe x i):=by
 have h6:=ho.1;unfold zOf;rw[yY hi,zM,yR [] (by omega),bs];rcases zCC (v:=x.zR.getD i []) ho hi with⟨h1,h2⟩|⟨h1,h2⟩
 ·rw[h1,bs,Kc,zK,yR [] (by omega),bs,zC (by omega) (by omega),bs,zC (by omega) (by omega),bs]
  by_cases hl:(x.zE.getD i []).length+i+1=x.zA.length
  ·rw[zCD (by omega),zK]
   rcases chk (body:=zTG x i) (x.zE.getD i []).length 0 (L7 _) (fun j=>Exp x.zA ((x.zE.getD i []).getD j []) i) (fun _=>iC) (fun j _ hj _=>by
     refine zBO (zCC ho hi) (by omega) ?_;unfold zTG;rw[yR [] (by omega),bs,yY hj,zM,bs,yR [] hj,bs]) (by
     unfold zTG;rw[yR [] (by omega),bs,xR,zK])with⟨g1,g2⟩|⟨j,_,hj,g1,g2⟩
   ·rw[show((0:Nat):Int)=0 from rfl]at g1
    rw[g1,bs];simp only
    rw[zC (by omega) (by omega),bs,cs];exact .inl ⟨rfl,h2,hl,by grind⟩
   ·rw[show((0:Nat):Int)=0 from rfl]at g1
    rw[g1,bs];exact .inr ⟨rfl,fun g=>g2 (g.2.2 j hj)⟩
  ·rw[zCj (by omega),zM]
   exact .inr ⟨rfl,fun g=>hl g.2.1⟩
 ·rw[h1,bs,Kq,zM]
  exact .inr ⟨rfl,fun g=>h2 g.1⟩
theorem zLD{x:SPr}(h6:x.zA.length≤6):
  (zH (zOi x) (1,0)=iz (.inl ())∧Os x.zA∧pr x.zA x.zA.length≤729)∨(zH (zOi x) (1,0)=iz (.inr iC)∧ ¬(Os x.zA∧pr x.zA x.zA.length≤729)):=by
 rcases yBA (body:=zOi x) (fun i=>(pr x.zA i,(i:Int))) x.zA.length 0 (L7 _) (fun i=>Prime (at0 x.zA i)∧pr x.zA (i+1)≤729) (fun _=>iC) (fun i _ hi pz=>by
   have hp:∀j,j<i→Prime (at0 x.zA j):=by grind
   have ud:=zF2 hp;have cS:pr x.zA i≤729:=by
    cases i with
    |zero=>simp[pr]
    |succ i=>grind
   unfold zOi;rw[yY hi,zM,yQ hi,bs];rcases zH5 (at0 x.zA i)with⟨h1,h2⟩|⟨h1,h2⟩
   ·have h3:=h2.pos
    have h4:pr x.zA i*at0 x.zA i≤729*7:=Lu cS h3.2 (by omega) (by omega);have h5:1*1≤pr x.zA i*at0 x.zA i:=Lu ud (by omega) (by omega) (by omega);simp only
    rw[h1,bs,Kc,zK,zC (by omega) (by omega),bs]
    by_cases h7:pr x.zA i*at0 x.zA i> 729
    ·rw[iE h7,zM]
     exact .inr ⟨rfl,by grind[pr]⟩
    ·rw[iD h7,zK,bs,zC (by omega) (by omega),bs,cs]
     exact .inl ⟨rfl,h2,by grind[pr]⟩
   grind) (by
   unfold zOi;simp)with⟨g1,g2⟩|⟨i,_,hi,g1,g2⟩
 ·refine .inl ⟨g1,⟨by omega,by grind⟩,?_⟩
  cases hn:x.zA.length with
  |zero=>simp[pr]
  |succ n=>grind
 ·refine .inr ⟨g1,fun⟨h1,h2⟩=>g2 ⟨h1.2 i hi,?_⟩⟩
  have:=zKb (os:=x.zA) (n:=x.zA.length) h1.2 (x.zA.length-(i+1)) (by omega)
  grind
theorem zKc{os:List Int}(ho:Os os):zWb os=iz (cp os os.length):=by
 have h6:=ho.1;unfold zWb;rw[show(1,0)=(fun i=>(cp os i,(i:Int))) 0 from rfl,zV (body:=zM5 os) (r:=cp os os.length) (fun i=>(cp os i,(i:Int))) os.length (fun i hi=>by
  have hp:=(ho.2 i hi).pos;have hc:=zSA (os:=os) (i:=i) fun j hj=>ho.2 j (by omega)
  have ud:=zF2 (os:=os) (i:=i) fun j hj=>ho.2 j (by omega)
  unfold zM5;rw[yY hi,zM];simp only[cp]
  by_cases h:cp os i≤729
  ·have h4:cp os i*at0 os i≤729*7:=Lu h hp.2 (by omega) (by omega)
   have h5:1*1≤cp os i*at0 os i:=Lu (by omega) (by omega) (by omega) (by omega);rw[iE h,zM,yQ hi,bs,zC (by omega) (by omega),bs,zC (by omega) (by omega),bs,cs,if_pos h]
  ·rw[iD h,zK,zC (by omega) (by omega),bs,cs,if_neg h]) (by
  unfold zM5;simp),bs]
theorem zAh{x:SPr}(hl:x.zA.length≤1048576):IsB (f_v x) (zCk x):=by
 unfold f_v
 by_cases h6:x.zA.length≤6
 ·rw[iD (by omega),zK]
  by_cases hp:x.zR.length=x.zA.length
  ·rw[zCD (by omega),zK]
   by_cases hc:x.zE.length=x.zA.length
   ·rw[zCD (by omega),zK]
    rcases zLD h6 with⟨h1,h2,h3⟩|⟨h1,h2⟩
    ·rw[h1,bs]
     exact(zDX (f:=(zH (zOj x) 0).bind fun r=>match r with|.inl _=>iz iB|.inr r=>iz r) x.zA.length (zGe x) rfl (by grind[zNx]) (by unfold zOj;simp)).iff ⟨fun g=>⟨⟨h2,hp,hc,g⟩,h6,h3⟩,fun g=>g.tl⟩
    ·rw[h1,bs]
     exact .inr ⟨rfl,fun g=>h2 ⟨g.os,g.pr⟩⟩
   ·rw[zCj (by omega),zM]
    exact .inr ⟨rfl,fun g=>hc g.cl⟩
  ·rw[zCj (by omega),zM]
   exact .inr ⟨rfl,fun g=>hp g.pl⟩
 ·rw[iE (by omega),zM]
  exact .inr ⟨rfl,fun g=>h6 g.n6⟩
theorem zAi{x:SPr}(hl:x.zA.length≤1048576):IsB (f_y x) (zCk x):=by
 unfold f_y
 by_cases h6:x.zA.length≤6
 ·rw[iD (by omega),zK]
  by_cases hp:x.zR.length=x.zA.length
  ·rw[zCD (by omega),zK]
   by_cases hc:x.zE.length=x.zA.length
   ·rw[zCD (by omega),zK]
    rcases chk (body:=zTF x) x.zA.length 0 (L7 _) (fun i=>Prime (at0 x.zA i)) (fun _=>iC) (fun i _ hi _=>by
      refine zBO (zNw _) (by omega) ?_;unfold zTF;rw[yY hi,zM,yQ hi,bs]) (by
      unfold zTF;simp)with⟨g1,g2⟩|⟨i,_,hi,g1,g2⟩
    ·rw[show((0:Nat):Int)=0 from rfl]at g1
     have ho:Os x.zA:=⟨by omega,by grind⟩;have hcp:=zSA (os:=x.zA) (i:=x.zA.length) ho.2;rw[g1,bs];simp only
     rw[zKc ho,bs]
     by_cases h7:cp x.zA x.zA.length> 729
     ·rw[iE h7,zM]
      exact .inr ⟨rfl,fun g=>by have:=g.pr;omega⟩
     ·rw[iD h7,zK]
      exact(zDX (f:=(zH (zOf x) 0).bind fun r=>match r with|.inl _=>iz iB|.inr r=>iz r) x.zA.length (zGe x) rfl (by grind[zNy]) (by unfold zOf;simp)).iff ⟨fun g=>⟨⟨ho,hp,hc,g⟩,h6,by omega⟩,fun g=>g.tl⟩
    ·rw[show((0:Nat):Int)=0 from rfl]at g1
     rw[g1,bs];exact .inr ⟨rfl,fun g=>g2 (g.os.2 i hi)⟩
   ·rw[zCj (by omega),zM]
    exact .inr ⟨rfl,fun g=>hc g.cl⟩
  ·rw[zCj (by omega),zM]
   exact .inr ⟨rfl,fun g=>hp g.pl⟩
 ·rw[iE (by omega),zM]
  exact .inr ⟨rfl,fun g=>h6 g.n6⟩
end Go.Pl

namespace Go.Pl
open Go Go.Ab Go.Wk Go.Pc
def lvl(x:SPr)(i:Nat):Lvl:=⟨at0 x.zA i,(x.zR.getD i []).drop (i+1),(x.zE.getD i []).map (·.drop (i+1))⟩
def suf(x:SPr)(k:Nat):Pcp:=(Kx k (x.zA.length-k)).map (lvl x)
theorem yP(x:SPr)(k:Nat):(suf x k).length=x.zA.length-k:=by simp[suf]
theorem yG{x:SPr}{k:Nat}(h:k<x.zA.length):suf x k=lvl x k::suf x (k+1):=by unfold suf;rw[show x.zA.length-k=(x.zA.length-(k+1))+1 from by omega,Jd9,Js]
theorem vV{x:SPr}{k:Nat}(h:x.zA.length≤k):suf x k=[]:=by unfold suf;rw[show x.zA.length-k=0 from by omega];rfl
theorem zAy{os v:List Int}{k:Nat}(h:Exp os v k)(hk:k<os.length):v=zeros (k+1)++v.drop (k+1):=by
 have h1:=h.1.1;apply Kr;intro i;rw[Ks];simp only[zeros,J8,Ke,Lr];split
 ·rename_i hi
  have h2:=h.2 i (by omega);rw[J3 (by omega)];rw[at0,J2,J3 (by omega)]at h2;simpa using h2
 ·rw[show k+1+(i-(k+1))=i from by omega]
theorem zYh{x:SPr}:∀(d k:Nat)(v:List Int),k+d=x.zA.length→v.length=d→(∀i,i<d→0≤at0 v i∧at0 v i≤at0 x.zA (k+i)-1)→V (suf x k) v
 |0,k,v,hk,hv,_=>by rw[vV (by omega)];simpa[V]using hv
 |d+1,k,v,hk,hv,h=>by
  rw[yG (by omega)]
  match v,hv with
  |a::v,hv=>
   have h0:=h 0 (by omega);simp only[at0,H7,G9]at h0;refine⟨⟨h0.1,by simp only[lvl,at0];omega⟩,zYh d (k+1) v (by omega) (by simpa using hv) fun i hi=>?_⟩;have:=h (i+1) (by omega);simp only[at0,U8]at this;rw[show k+1+i=k+(i+1)from by omega];exact this
theorem jR{x:SPr}{v:List Int}{k:Nat}(h:Exp x.zA v k)(hk:k<x.zA.length):V (suf x (k+1)) (v.drop (k+1)):=by
 have h1:=h.1.1;refine zYh (x.zA.length-(k+1)) (k+1) _ (by omega) (by rw[K3];omega) fun i hi=>?_
 have:=h.1.2 (k+1+i) (by omega);have e:at0 (v.drop (k+1)) i=at0 v (k+1+i):=by simp only[at0,J2,Lr]
 rw[e];exact this
theorem zGf.ok{x:SPr}(h:zGf x):∀(d k:Nat),k+d=x.zA.length→Pc.Ok (suf x k)
 |0,k,hk=>by rw[vV (by omega)];simp only[Pc.Ok]
 |d+1,k,hk=>by
  rw[yG (by omega)];obtain⟨t1,t2,t3⟩:=h.tl k (by omega);refine⟨by simp only[lvl];have:=(h.os.2 k (by omega)).pos;omega,jR t1 (by omega),?_,fun c hc=>?_,zGf.ok h d (k+1) (by omega)⟩
  ·rw[yP];simp only[lvl,Je];omega
  ·simp only[lvl,Jt]at hc
   obtain⟨u,hu,rfl⟩:=hc;obtain⟨j,hj,rfl⟩:=Hu.1 hu;have:=t3 j hj;rw[J2,J3 hj]at this;exact jR this (by omega)
theorem zGf.okAt{x:SPr}(h:zGf x){k:Nat}(hk:k≤x.zA.length):Pc.Ok (suf x k):=h.ok (x.zA.length-k) k (by omega)
theorem Pres.okAt{x:SPr}(h:Pres x){k:Nat}(hk:k≤x.zA.length):Pc.Ok (suf x k):=h.w.okAt hk
theorem yC(n:Nat):(zeros n).length=n:=by simp[zeros]
theorem zGg(k:Nat):zeros (k+1)=zeros k++[0]:=by simp[zeros,Ln]
theorem zD8{k:Nat}{a b:Int}{v:Vec}:(zeros k++a::v).set k b=zeros k++b::v:=by rw[Ge _ _ (by rw[yC];omega),yC,Kd,Lw]
theorem zCE{k:Nat}{a:Int}{v:Vec}:ixO (zeros k++a::v) (k:Int)=iz a:=by rw[vP,Jb (by rw[yC];omega),yC,Kd];rfl
theorem zBP{k:Nat}{v:Vec}:zeros k++0::v=zeros (k+1)++v:=by rw[zGg,Jd];rfl
theorem tM{v:List Int}(h:v.length≤1000000):f_w v=iz v:=by unfold f_w;rw[yE (by simp;omega),bs,Ju]
end Go.Pl

namespace Go.Pl
open Go Go.Ab Go.Wk Go.Pc
theorem zBx{m:Vec→Vec→Vec}:∀(cs:List Vec)(x:Vec)(i:Nat)(acc:Vec),i<cs.length→i<x.length→
  img m (cs.take (i+1)) (x.take (i+1)) acc=iter (at0 x i).toNat (fun v=>m v (cs.getD i [])) (img m (cs.take i) (x.take i) acc)
 | [],_,_,_,h,_=>by simp at h
 |_::_,[],_,_,_,h=>by simp at h
 |c::cs,a::x,0,acc,_,_=>by simp only[Jf,Ku,K5,img,at0,H7]
 |c::cs,a::x,i+1,acc,h,h'=>by simp only[Ku,img,at0,U8];exact zBx cs x i _ (by simpa using h) (by simpa using h')
theorem uZ{α β:Type}{body:α×Int→Option ((α×Int)⊕α)}{S:β→Prop}(e:β→α)(g:β→β)(n:Int)(hn:0≤n)(hS:∀a,S a→S (g a))
  (h:∀a(i:Nat),S a→(i:Int)<n→body (e a,(i:Int))=iz (.inl (e (g a),((i+1:Nat):Int))))(he:∀a,S a→body (e a,n)=iz (.inr (e a))){a:β}(ha:S a):
  zH body (e a,0)=iz (e (iter n.toNat g a)):=by
 have e6:∀k,S (iter k g a):=fun k=>vO (S:=S) hS k ha
 exact zV (body:=body) (r:=e (iter n.toNat g a)) (fun i=>(e (iter i g a),(i:Int))) n.toNat (fun i hi=>by
  rw[h _ i (e6 i) (by omega),vG]) (by
  rw[show((n.toNat:Nat):Int)=n from by omega];exact he _ (e6 _))
theorem zLE{k i:Nat}{v:Vec}(h:i<v.length):ixO (zeros k++v) ((k+i:Nat):Int)=iz (at0 v i):=by rw[vP,Jb (by rw[yC];omega),yC,show k+i-k=i from by omega,J3 h,at0,J2,J3 h];rfl
theorem zDY{x:SPr}(ho:Os x.zA):∀(d k:Nat)(v:List Int),k+d=x.zA.length→V (suf x k) v→v.length=d∧ ∀i,i<d→0≤at0 v i∧at0 v i<at0 x.zA (k+i)∧at0 v i≤6
 |0,k,v,hk,hv=>by rw[vV (by omega)]at hv;simp only[V]at hv;subst hv;exact⟨rfl,fun i hi=>by omega⟩
 |d+1,k,v,hk,hv=>by
  rw[yG (by omega)]at hv
  match v,hv with
  |a::v,hv=>
   obtain⟨h1,h2⟩:=zDY ho d (k+1) v (by omega) hv.2;refine⟨by simp[h1],fun i hi=>?_⟩;cases i with
   |zero=>
    have h3:=hv.1;simp only[lvl]at h3;have:=(ho.2 k (by omega)).pos;simp only[at0,H7,G9]at h3 this ⊢
    omega
   |succ i=>
    have:=h2 i (by omega);simp only[at0,U8]at this ⊢
    rw[show k+(i+1)=k+1+i from by omega];exact this
theorem zEB{x:SPr}(h:Pres x){k i:Nat}(hk:k<x.zA.length)(hi:i<x.zA.length-(k+1)):
  ∃c,ixO x.zE (k:Int)=iz (x.zE.getD k [])∧ixO (x.zE.getD k []) (i:Int)=iz (zeros (k+1)++c)∧V (suf x (k+1)) c∧(lvl x k).cs.getD i []=c:=by
 obtain⟨t1,t2,t3⟩:=h.tl k hk;have hc:=h.cl;have ht:=t3 i (by omega);refine⟨((x.zE.getD k []).getD i []).drop (k+1),yR [] (by omega),?_,jR ht hk,?_⟩
 ·rw[yR [] (by omega),←zAy ht hk]
 ·simp only[lvl,J2,K4]
  rw[J3 (l:=x.zE[k]?.getD []) (by rw[J2]at t2;omega)];rfl
def FAt(x:SPr)(k:Nat)(g:SPr→Int→List Int→List Int→Option (List Int)):Prop:=
 ∀a b,V (suf x k) a→V (suf x k) b→g x k (zeros k++a) (zeros k++b)=iz (zeros k++mul (suf x k) a b)
def FIm(x:SPr)(k:Nat)(g:SPr→Int→List Int→Option (List Int)):Prop:=
 ∀v,V (suf x (k+1)) v→g x k (zeros (k+1)++v)=iz (zeros (k+1)++sig (suf x (k+1)) (lvl x k) v)
theorem zNz{x:SPr}(h:Pres x){k:Nat}(hk:k<x.zA.length){g:SPr→Int→List Int→List Int→Option (List Int)}(hg:FAt x (k+1) g):FIm x k (b_h g):=by
 intro v hv;have h6:=h.os.1;have ok:=h.okAt (k:=k+1) (by omega);obtain⟨pd,aY⟩:=zDY h.os (x.zA.length-(k+1)) (k+1) v (by omega) hv;have gj:=yP x (k+1);have gC:(lvl x k).cs.length=x.zA.length-(k+1):=by have:=h.okAt (k:=k) (by omega);rw[yG hk]at this;rw[this.2.2.1,gj]
 have gQ:∀c∈(lvl x k).cs,V (suf x (k+1)) c:=by have:=h.okAt (k:=k) (by omega);rw[yG hk]at this;exact this.2.2.2.1
 have hA:∀i,V (suf x (k+1)) (img (mul (suf x (k+1))) ((lvl x k).cs.take i) (v.take i) (zeros (suf x (k+1)).length)):=fun i=>
  jL (xK ok) _ _ (fun c hc=>gQ c (List.mem_of_mem_take hc)) (wO ok)
 unfold b_h;rw[yX (by omega),bs,zC (by omega) (by omega),bs,cs];have hz:J0 x.zA.length (0:Int)=zeros (k+1)++zeros (suf x (k+1)).length:=by rw[gj];simp only[zeros,Jn];congr 1;omega
 rw[hz];have:=zV (body:=zTI g x k (zeros (k+1)++v)) (r:=zeros (k+1)++sig (suf x (k+1)) (lvl x k) v)
  (fun i=>(zeros (k+1)++img (mul (suf x (k+1))) ((lvl x k).cs.take i) (v.take i) (zeros (suf x (k+1)).length),((k+1+i:Nat):Int))) (x.zA.length-(k+1)) (fun i hi=>by
  have hr:=aY i hi;obtain⟨c,c1,c2,c3,c4⟩:=zEB h hk hi;unfold zTI;rw[iE (by simp only;omega),zM];rw[uZ (S:=V (suf x (k+1))) (body:=zTH g x k (zeros (k+1)++v) (zeros (k+1)++img (mul (suf x (k+1))) ((lvl x k).cs.take i) (v.take i) (zeros (suf x (k+1)).length),((k+1+i:Nat):Int))) (fun u=>zeros (k+1)++u) (fun u=>mul (suf x (k+1)) u c) (at0 v i) hr.1 (fun u hu=>xK ok hu c3) (fun u q hu hq=>by
   unfold zTH;simp only
   rw[zLE (by omega),bs,iE hq,zM,zC (by omega) (by omega),bs,c1,bs,zC (by omega) (by omega),bs,zC (by omega) (by omega),bs,
    show(((k+1+i:Nat):Int)-(k:Int)-1)=(i:Int)from by omega,c2,bs,cs,hg u c hu c3,bs,zC (by omega) (by omega),bs,cs]) (fun u hu=>by
   unfold zTH;simp only
   rw[zLE (by omega),bs,iD (by omega),zK]) (hA i),bs,zC (by omega) (by omega),bs,cs]
  rw[zBx _ _ _ _ (by omega) (by omega),c4];rfl) (by
  unfold zTI;rw[iD (by simp only;omega),zK,Jr (by omega),Jr (by omega)];rfl)
 simp only[K5,img]at this;rw[this,bs]
theorem zV8{x:SPr}(h:Pres x){k:Nat}(hk:k<x.zA.length){g:SPr→Int→List Int→List Int→Option (List Int)}{gi:SPr→Int→List Int→Option (List Int)}(hg:FAt x (k+1) g)(hi:FIm x k gi):FAt x k (b_a gi g):=by
 intro a b ha hb;have h6:=h.os.1;have hp:=(h.os.2 k hk).pos;have ok:=h.okAt (k:=k+1) (by omega);have ok0:=h.okAt (k:=k) (by omega);obtain⟨mf,har⟩:=zDY h.os (x.zA.length-k) k a (by omega) ha;obtain⟨cm,hbr⟩:=zDY h.os (x.zA.length-k) k b (by omega) hb;rw[yG hk]at ha hb ok0;obtain⟨a0,a,rfl⟩:∃a0 a',a=a0::a':=by cases a with|nil=>simp at mf;omega|cons p q=>exact⟨p,q,rfl⟩
 obtain⟨b0,b,rfl⟩:∃a0 a',b=a0::a':=by cases b with|nil=>simp at cm;omega|cons p q=>exact⟨p,q,rfl⟩
 obtain⟨⟨a1,a2⟩,ha⟩:=ha;obtain⟨⟨b1,b2⟩,hb⟩:=hb;have pX:(lvl x k).o=at0 x.zA k:=rfl;rw[pX]at a2 b2;unfold b_a;rw[iD (by omega),zK,tM (by simp[yC]at mf ⊢;omega),bs,tM (by simp[yC]at cm ⊢;omega),bs,zCE,bs,zCE,bs,J9,zD8,zD8,zBP,zBP];have ew:∀u,V (suf x (k+1)) u→V (suf x (k+1)) (sig (suf x (k+1)) (lvl x k) u):=fun u hu=>zCA ok0 hu
 have e6:V (suf x (k+1)) (iter b0.toNat (sig (suf x (k+1)) (lvl x k)) a):=vO ew _ ha;rw[uZ (S:=V (suf x (k+1))) (fun u=>zeros (k+1)++u) (sig (suf x (k+1)) (lvl x k)) b0 b1 ew (fun u q hu hq=>by
   unfold zWc;simp only
   rw[zCE,bs,iE hq,zM,hi u hu,bs,zC (by omega) (by omega),bs,cs]) (fun u hu=>by
   unfold zWc;simp only
   rw[zCE,bs,iD (by omega),zK]) ha,bs,zC (by omega) (by omega),bs,cs,hg _ _ e6 hb,bs,bs,bs,zC (by omega) (by omega),bs,yQ hk,bs]
 have hm:=xK ok e6 hb;have uw:=(zDY h.os (x.zA.length-(k+1)) (k+1) _ (by omega) hm).1;have own:∀u,V (suf x (k+1)) u→f_w (zeros (k+1)++u)=iz (zeros (k+1)++u):=fun u hu=>tM (by have:=(zDY h.os (x.zA.length-(k+1)) (k+1) _ (by omega) hu).1;rw[J5,yC];omega)
 rw[yG hk,xC,pX]
 by_cases hge:a0+b0≥at0 x.zA k
 ·have t1:=(h.tl k hk).1
  have hw:=jR t1 hk;have hwl:=h.pl;rw[iE hge,zM,if_pos hge,bs,zC (by omega) (by omega),bs,bs,yR [] (by omega),bs,zAy t1 hk,hg _ _ hw hm,bs,own _ (xK ok hw hm),bs];rw[←zBP,zCE,bs,zD8];rfl
 ·rw[iD hge,zK,if_neg hge,own _ hm,bs,←zBP,zCE,bs,zD8]
theorem zF3{x:SPr}(h:Pres x):∀(d k:Nat),k+d=x.zA.length→(∀m,2*d+1≤m→FAt x k (zOh m))∧(1≤d→ ∀m,2*d≤m→FIm x k (zOg m))
 |0,k,hk=>by refine⟨fun m hm a b ha hb=>?_,fun h=>by omega⟩;have h6:=h.os.1;obtain⟨m,rfl⟩:∃m',m=m'+1:=⟨m-1,by omega⟩;show b_a _ _ x k _ _=_;unfold b_a;rw[iE (by omega),zM,yX (by omega),bs,vV (by omega)];simp only[mul,Ja,zeros];rw[show k=x.zA.length from by omega]
 |d+1,k,hk=>by
  obtain⟨h1,h2⟩:=zF3 h d (k+1) (by omega);have hI:∀m,2*(d+1)≤m→FIm x k (zOg m):=fun m hm=>by obtain⟨m,rfl⟩:∃m',m=m'+1:=⟨m-1,by omega⟩;exact zNz h (by omega) (h1 m (by omega))
  refine⟨fun m hm=>?_,fun _=>hI⟩;obtain⟨m,rfl⟩:∃m',m=m'+1:=⟨m-1,by omega⟩;exact zV8 h (by omega) (h1 m (by omega)) (hI m (by omega))
theorem zPo{x:SPr}(h:Pres x){k:Nat}(hk:k≤x.zA.length):FAt x k f_a:=fun a b ha hb=>
 zBu (2*(x.zA.length-k)+1) fun m hm=>(zF3 h (x.zA.length-k) k (by omega)).1 m hm a b ha hb
theorem zN0{x:SPr}(h:Pres x){k:Nat}(hk:k<x.zA.length):FIm x k f_h:=fun v hv=>
 zBu (2*(x.zA.length-k)) fun m hm=>(zF3 h (x.zA.length-k) k (by omega)).2 (by omega) m hm v hv
end Go.Pl

namespace Go.Pl
open Go Go.Ab Go.Wk Go.Pc
theorem zCF:∀{P Q:Pcp},Q<:+P→wQ P→wQ Q
 | [],Q,h,_=>by grind
 |l::P,Q,h,hc=>by
  rcases Jaq.1 h with rfl|h
  ·exact hc
  ·exact zCF h hc.1
theorem zJk:∀{P Q:Pcp},Q<:+P→Pc.Ok P→Pc.Ok Q
 | [],Q,h,_=>by grind
 |l::P,Q,h,hc=>by
  rcases Jaq.1 h with rfl|h
  ·exact hc
  ·exact zJk h hc.2.2.2.2
theorem zN1(x:SPr)(k:Nat):suf x (k+1)<:+suf x k:=by grind[yG,vV]
theorem zEC{x:SPr}{k:Nat}(h:wQ (suf x k)):∀i,wQ (suf x (k+i))
 |0=>h
 |i+1=>zCF (zN1 x (k+i)) (zEC h i)
theorem zH6{x:SPr}(h:Pres x){k:Nat}(hk:k≤x.zA.length)(hc:wQ (suf x k)):Grp (V (suf x k)) (mul (suf x k)) (zeros (suf x k).length):=zCB _ (h.okAt hk) hc
theorem zGz{x:SPr}:∀(i k:Nat)(v:Vec),k+i≤x.zA.length→V (suf x k) v→ ∃q v',v=q++v'∧q.length=i∧V (suf x (k+i)) v'∧
  ∀a b,V (suf x (k+i)) a→V (suf x (k+i)) b→mul (suf x k) (q++a) (zeros i++b)=q++mul (suf x (k+i)) a b
 |0,k,v,_,hv=>⟨[],v,rfl,rfl,hv,fun a b _ _=>rfl⟩
 |i+1,k,v,hk,hv=>by
  rw[yG (by omega)]at hv
  match v,hv with
  |e::v,hv=>
   obtain⟨q,v',h1,h2,h3,h4⟩:=zGz i (k+1) v (by omega) hv.2;rw[show k+1+i=k+(i+1)from by omega]at h3 h4;refine⟨e::q,v',by grind,by simp[h2],h3,fun a b ha hb=>?_⟩;have he:=hv.1;rw[yG (by omega)];show mul (lvl x k::suf x (k+1)) (e::(q++a)) (0::(zeros i++b))=_;rw[xC,H5,if_neg (by omega)]
   grind[iter]
def FTV(x:SPr)(k:Nat)(g:SPr→List Int→List Int→Option (List Int)):Prop:=
 ∀p v u,p.length=k→V (suf x k) v→V (suf x k) u→g x (p++v) (zeros k++u)=iz (p++mul (suf x k) v u)
def FTG(x:SPr)(k:Nat)(g:SPr→List Int→Int→Option (List Int)):Prop:=
 ∀p v,p.length=k→V (suf x k) v→g x (p++v) (k:Int)=iz (p++mul (suf x k) v (1::zeros (x.zA.length-(k+1))))
theorem zJl{x:SPr}(h:Pres x){k:Nat}(hk:k<x.zA.length){g:SPr→List Int→List Int→Option (List Int)}(hg:FTV x (k+1) g){t:Vec}(ht:V (suf x (k+1)) t)
  {body1:List Int×Int→Int→List Int×Int→Option ((List Int×Int)⊕List Int)}{body2:List Int×Int→Option ((List Int×Int)⊕List Int)}
  (pR:∀s,body2 s=cond (decide (s.2<(t.length:Int))) ((ixO t s.2).bind fun v17=>(zH (body1 s v17) (s.1,0)).bind fun r=>(rng (s.2+1)).bind fun v=>iz (.inl (r,v))) (iz (.inr s.1)))
  (ir:∀s v q,body1 s v q=cond (decide (q.2<v)) ((ixO x.zE (k:Int)).bind fun cl=>(ixO cl s.2).bind fun c=>(g x q.1 c).bind fun r=>(rng (q.2+1)).bind fun w=>iz (.inl (r,w))) (iz (.inr q.1)))
  {p:Vec}(hp:p.length=k+1){u:Vec}(hu:V (suf x (k+1)) u):zH body2 (p++u,0)=iz (p++img (mul (suf x (k+1))) (lvl x k).cs t u):=by
 have h6:=h.os.1;have ok:=h.okAt (k:=k+1) (by omega);have ok0:=h.okAt (k:=k) (by omega);rw[yG hk]at ok0;obtain⟨fN,tq⟩:=zDY h.os (x.zA.length-(k+1)) (k+1) t (by omega) ht;have gC:(lvl x k).cs.length=x.zA.length-(k+1):=by rw[ok0.2.2.1,yP]
 have hA:∀i,V (suf x (k+1)) (img (mul (suf x (k+1))) ((lvl x k).cs.take i) (t.take i) u):=fun i=>
  jL (xK ok) _ _ (fun c hc=>ok0.2.2.2.1 c (by grind)) hu
 have:=zV (body:=body2) (r:=p++img (mul (suf x (k+1))) (lvl x k).cs t u) (fun i=>(p++img (mul (suf x (k+1))) ((lvl x k).cs.take i) (t.take i) u,(i:Int))) t.length (fun i hi=>by
  have hr:=tq i (by omega);obtain⟨c,c1,c2,c3,c4⟩:=zEB h hk (i:=i) (by omega);rw[pR];simp only
  rw[yY hi,zM,yQ hi,bs];rw[uZ (S:=V (suf x (k+1))) (fun u=>p++u) (fun u=>mul (suf x (k+1)) u c) (at0 t i) hr.1 (by grind[xK]) (fun u q hu hq=>by
   rw[ir];simp only
   rw[iE hq,zM,c1,bs,c2,bs,hg p u c hp hu c3,bs,zC (by omega) (by omega),bs,cs]) (by grind) (hA i),bs,zC (by omega) (by omega),bs,cs]
  rw[zBx _ _ _ _ (by omega) (by omega),c4]) (by
  grind)
 grind[img]
theorem zWV{p v:Vec}{a:Int}{k:Nat}(hp:p.length=k):ixO (p++a::v) (k:Int)=iz a:=by rw[vP,Jb (by omega),hp,Kd];rfl
theorem p_set{p v:Vec}{a b:Int}{k:Nat}(hp:p.length=k):(p++a::v).set k b=p++b::v:=by simp_all
theorem zLF{x:SPr}(h:Pres x){k:Nat}(hk:k<x.zA.length)(hc:wQ (suf x (k+1))){g:SPr→List Int→List Int→Option (List Int)}(hg:FTV x (k+1) g):FTG x k (b_b g):=by
 intro p v hp hv;have h6:=h.os.1;have G:=zH6 h (k:=k+1) (by omega) hc;have ok:=h.okAt (k:=k+1) (by omega);have ok0:=h.okAt (k:=k) (by omega);obtain⟨pd,aY⟩:=zDY h.os (x.zA.length-k) k v (by omega) hv;rw[yG hk]at hv ok0;obtain⟨e,t,rfl⟩:∃a0 a',v=a0::a':=by cases v with|nil=>grind|cons p q=>simp
 obtain⟨⟨e1,e2⟩,ht⟩:=hv;have pX:(lvl x k).o=at0 x.zA k:=rfl;rw[pX]at e2;have cB:=(h.os.2 k hk).pos;have fN:=(zDY h.os (x.zA.length-(k+1)) (k+1) t (by omega) ht).1;have pL:=yP x (k+1);unfold b_b;have hs:yB (p++e::t) ((k+1:Nat):Int) ((p++e::t).length:Int)=iz t:=by
  unfold yB;rw[if_pos (by grind)];have e3:(p++e::t).drop (k+1)=t:=by rw[Jc9,Ur (by omega),hp,show k+1-k=1 from by omega];rfl
  grind[J9]
 have bz:f_F t=iz t:=by grind[f_F,yE]
 rw[zC (by omega) (by omega),bs,cs,hs,bs,bz,bs];have hz:=zV (body:=zTT k t) (r:=(p++[e])++zeros t.length) (fun i=>((p++[e])++(zeros i++t.drop i),(i:Int))) t.length (fun i hi=>by
  have hl:((p++[e])++zeros i).length=k+1+i:=by grind[yC]
  unfold zTT;simp only
  rw[yY hi,zM,zC (by omega) (by omega),bs,zC (by omega) (by omega),bs,show(k:Int)+1+(i:Int)=((k+1+i:Nat):Int)from by omega,vP,←Jd,Jb (by omega),hl,Kd,
   Hy hi,Qy,bs,zC (by omega) (by omega),bs,cs,J9,Ge _ _ (by omega),hl,Kd,Lw,zGg]
  simp) (by
  unfold zTT;simp)
 simp only[zeros,Ko,Hv,Ju,Jd,Lx]at hz;rw[show((0:Nat):Int)=0 from rfl]at hz;rw[hz,bs,J9,zWV hp,bs,zC (by omega) (by omega),bs,bs,p_set hp,zWV hp,bs,yQ hk,bs];have eK:J0 t.length (0:Int)=zeros (suf x (k+1)).length:=by rw[pL,fN];rfl
 rw[yG hk,xC,pX];have gr:mul (suf x (k+1)) (iter (1:Int).toNat (sig (suf x (k+1)) (lvl x k)) t) (zeros (x.zA.length-(k+1)))=sig (suf x (k+1)) (lvl x k) t:=by rw[←pL];show mul _ (sig (suf x (k+1)) (lvl x k) t) _=_;exact G.oner (zCA ok0 ht)
 rw[gr,eK]
 by_cases heq:e+1=at0 x.zA k
 ·have t1:=(h.tl k hk).1
  have hw:=jR t1 hk;have hwl:=h.pl;have d9:(p++[(0:Int)]).length=k+1:=by simp[hp]
  rw[show(e+1==at0 x.zA k)=iB from by grind,zM,if_pos (by omega),bs,yR [] (by omega),bs,p_set hp];have dn:p++0::zeros (suf x (k+1)).length=(p++[0])++zeros (suf x (k+1)).length:=by simp
  rw[dn,zAy t1 hk,hg _ _ _ d9 G.ein hw,bs,G.onel hw];rw[zJl (body1:=zYP g x k) (body2:=zYQ g x k t) h hk hg ht (fun _=>rfl) (fun _ _ _=>rfl) d9 hw,bs];rw[zEA G.toMon _ _ ok0.2.2.2.1 hw,show e+1-at0 x.zA k=0 from by omega];simp only[Jd,Lx];rfl
 ·have d9:(p++[e+1]).length=k+1:=by simp[hp]
  rw[show(e+1==at0 x.zA k)=iC from by grind,zK,if_neg (by omega)];have dn:p++(e+1)::zeros (suf x (k+1)).length=(p++[e+1])++zeros (suf x (k+1)).length:=by simp
  rw[dn,zJl (body1:=zYR g x k) (body2:=zYS g x k t) h hk hg ht (fun _=>rfl) (fun _ _ _=>rfl) d9 G.ein,bs];simp only[Jd,Lx];rfl
theorem zAs{n i:Nat}(h:i<n):xP n i=zeros i++1::zeros (n-(i+1)):=by
 have:zeros n=zeros i++0::zeros (n-(i+1)):=by
  simp only[zeros];rw[←Jq,Jn]
  grind
 grind[xP,zD8]
theorem zED(n:Nat):(wJ n).length=n:=by simp[wJ]
theorem zH7{n i:Nat}(h:i<n):(wJ n).getD i []=xP n i:=by simp[wJ,J2,h]
theorem zSB{x:SPr}(h:Pres x){k:Nat}(hk:k≤x.zA.length)(hc:wQ (suf x k)){g:SPr→List Int→Int→Option (List Int)}(hg:∀j,k≤j→j<x.zA.length→FTG x j g):FTV x k (b_c g):=by
 intro p v u hp hv hu;have h6:=h.os.1;have G:=zH6 h hk hc;have ok:=h.okAt hk;obtain⟨eY,dx⟩:=zDY h.os (x.zA.length-k) k u (by omega) hu;have pL:=yP x k;have hV1:∀j,j≤x.zA.length→j<x.zA.length→V (suf x j) (1::zeros (x.zA.length-(j+1))):=fun j hj aD=>by rw[yG aD];have:=(h.os.2 j aD).pos;refine⟨⟨by omega,by show 1<at0 x.zA j;omega⟩,?_⟩;rw[←yP];exact wO (h.okAt (by omega))
 have hUn:∀i,i<x.zA.length-k→V (suf x k) (xP (x.zA.length-k) i):=by grind[zC9]
 have hUs:∀c∈wJ (x.zA.length-k),V (suf x k) c:=fun c hc=>by
  simp only[wJ,Jt,Kh]at hc
  grind
 have hA:∀i,V (suf x k) (img (mul (suf x k)) ((wJ (x.zA.length-k)).take i) (u.take i) v):=fun i=>
  jL (xK ok) _ _ (by grind) hv
 have i7:∀i w,i<x.zA.length-k→V (suf x k) w→g x (p++w) ((k+i:Nat):Int)=iz (p++mul (suf x k) w (xP (x.zA.length-k) i)):=fun i w hi hw=>by obtain⟨q,w',h1,h2,h3,h4⟩:=zGz i k w (by omega) hw;have h5:=hg (k+i) (by omega) (by omega) (p++q) w' (by grind) h3;rw[Jd,←h1]at h5;rw[h5,zAs hi,h1,show x.zA.length-k-(i+1)=x.zA.length-(k+i+1)from by omega,h4 w' _ h3 (hV1 (k+i) (by omega) (by omega)),Jd]
 unfold b_c;have tn:(zeros k++u).length=x.zA.length:=by grind[yC]
 have:=zV (body:=zTV g x (zeros k++u)) (r:=p++mul (suf x k) v u) (fun j=>(p++img (mul (suf x k)) ((wJ (x.zA.length-k)).take (j-k)) (u.take (j-k)) v,(j:Int))) x.zA.length (fun j hj=>by
  unfold zTV;simp only
  rw[tn,yY hj,zM];rcases Jj j k with hjk|hjk
  ·have e0:ixO (zeros k++u) (j:Int)=iz 0:=by
    rw[vP,Jx (by grind)]
    grind[zeros]
   rw[e0,bs,show j-k=0 from by omega,show j+1-k=0 from by omega];rw[xL];unfold zTU;simp only
   rw[show decide ((0:Int)<0)=iC from rfl,zK];simp only
   rw[bs,zC (by omega) (by omega),bs,cs]
  ·obtain⟨i,rfl⟩:∃i,j=k+i:=⟨j-k,by omega⟩
   have hi:i<x.zA.length-k:=by omega
   have hr:=dx i hi;rw[zLE (by omega),bs,show k+i-k=i from by omega,show k+i+1-k=i+1 from by omega];rw[uZ (S:=V (suf x k)) (fun w=>p++w) (fun w=>mul (suf x k) w (xP (x.zA.length-k) i)) (at0 u i) hr.1 (by grind[xK]) (fun w q hw hq=>by
    unfold zTU;simp only
    rw[iE hq,zM,i7 i w hi hw,bs,zC (by omega) (by omega),bs,cs]) (fun w hw=>by
    unfold zTU;simp) (hA i),bs,zC (by omega) (by omega),bs,cs]
   rw[zBx _ _ _ _ (by grind[zED]) (by omega),zH7 hi]) (by
  unfold zTV;simp only
  rw[tn,xR,zK,Jr (by grind[zED]),Jr (by omega),zEA G.toMon _ _ hUs hv];have hn:=normal (suf x k) ok (fun Q hQ=>(zCB Q (zJk hQ ok) (zCF hQ hc)).toMon) u hu
  grind)
 simp only[Jcm,K5,img]at this
 grind
theorem zF4{x:SPr}(h:Pres x):∀(d k:Nat),k+d=x.zA.length→wQ (suf x k)→(∀m,2*d+1≤m→FTV x k (zQT m))
 |d,k,hk,hc=>fun m hm=>by
  obtain⟨m,rfl⟩:∃m',m=m'+1:=⟨m-1,by omega⟩;refine zSB h (by omega) hc fun j hj bR=>?_
  obtain⟨m,rfl⟩:∃m',m=m'+1:=⟨m-1,by omega⟩;have dh:wQ (suf x (j+1)):=by
   have:=zEC hc (j+1-k)
   grind
  exact zLF h bR dh (zF4 h (x.zA.length-(j+1)) (j+1) (by omega) dh m (by omega))
 termination_by d=>d
 decreasing_by omega
theorem zV9{x:SPr}(h:Pres x){k:Nat}(hk:k≤x.zA.length)(hc:wQ (suf x k)):FTV x k f_c:=fun p v u hp hv hu=>
 zBu (2*(x.zA.length-k)+1) fun m hm=>zF4 h (x.zA.length-k) k (by omega) hc m hm p v u hp hv hu
theorem zVA{x:SPr}(h:Pres x){k:Nat}(hk:k<x.zA.length)(hc:wQ (suf x (k+1))):FTG x k f_b:=fun p v hp hv=>
 zBu (2*(x.zA.length-k)) fun m hm=>by obtain⟨m,rfl⟩:∃m',m=m'+1:=⟨m-1,by omega⟩;exact zLF h hk hc (zF4 h (x.zA.length-(k+1)) (k+1) (by omega) hc m (by omega)) p v hp hv
end Go.Pl

namespace Go.Pl
open Go Go.Ab Go.Wk Go.Pc
abbrev fv(k:Nat)(v:Vec):Vec:=zeros k++v
section
variable {x:SPr} (h:Pres x) {k:Nat} (hk:k≤x.zA.length) (hc:wQ (suf x k))
 include h hk
theorem vC{v:Vec}(hv:V (suf x k) v):v.length=x.zA.length-k:=(zDY h.os (x.zA.length-k) k v (by omega) hv).1
theorem zCG{v:Vec}(hv:V (suf x k) v):(fv k v).length=x.zA.length:=by rw[J5,yC,vC h hk hv];omega
theorem zPp:J0 x.zA.length (0:Int)=fv k (zeros (suf x k).length):=by
 have _:=h;rw[yP];simp only[fv,zeros,Jn];congr 1;omega
 include hc
theorem zN2{i:Nat}(hi:i<x.zA.length-k):V (suf x k) (xP (x.zA.length-k) i):=by
 have _:=hc;have:=yP x k;rw[←this]at hi ⊢
 exact zC9 (h.okAt hk) hi
theorem zLG{p:Vec}(hp:p.length=k){i:Nat}(hi:i<x.zA.length-k){w:Vec}(hw:V (suf x k) w):f_b x (p++w) ((k+i:Nat):Int)=iz (p++mul (suf x k) w (xP (x.zA.length-k) i)):=by
 obtain⟨q,w',h1,h2,h3,h4⟩:=zGz i k w (by omega) hw;have dh:wQ (suf x (k+i+1)):=zEC hc (i+1);have h5:=zVA h (k:=k+i) (by omega) dh (p++q) w' (by simp[hp,h2]) h3;have h7:V (suf x (k+i)) (1::zeros (x.zA.length-(k+i+1))):=by
  have aD:k+i<x.zA.length:=by omega
  rw[yG aD];have:=(h.os.2 (k+i) aD).pos;refine⟨⟨by omega,by show 1<at0 x.zA (k+i);omega⟩,?_⟩;rw[←yP];exact wO (h.okAt (by omega))
 rw[Jd,←h1]at h5;rw[h5,zAs hi,h1,show x.zA.length-k-(i+1)=x.zA.length-(k+i+1)from by omega,h4 w' _ h3 h7,Jd]
theorem zH8{a b:Vec}(ha:V (suf x k) a)(hb:V (suf x k) b):f_c x (fv k a) (fv k b)=iz (fv k (mul (suf x k) a b)):=
 zV9 h hk hc (zeros k) a b (yC k) ha hb
theorem zLH{a:Vec}(ha:V (suf x k) a):f_F (fv k a)=iz (fv k a):=by have _:=hc;have:=zCG h hk ha;have h6:=h.os.1;unfold f_F;rw[yE (by simp only[Jg];omega),bs,Ju]
theorem zD9{a b:Vec}(ha:V (suf x k) a)(hb:V (suf x k) b):zUb x (fv k a) (fv k b)=iz (fv k (mul (suf x k) a b)):=by unfold zUb;rw[zLH h hk hc ha,bs,zH8 h hk hc ha hb,bs]
theorem zN3{c:Vec}(p8:V (suf x k) c){e:Int}(e0:0≤e)(e1:e≤1000):zWh x (fv k c) e=iz (fv k (pw (mul (suf x k)) (zeros (suf x k).length) c e.toNat)):=by
 have h6:=h.os.1;have ok:=h.okAt hk;unfold zWh;rw[zCG h hk p8,yX (by omega),bs,zPp h hk];rw[uZ (S:=V (suf x k)) (body:=zM7 x (fv k c) e) (fun u=>fv k u) (fun u=>mul (suf x k) u c) e e0 (fun u hu=>xK ok hu p8) (fun u i hu hi=>by
  unfold zM7;simp only
  rw[iE hi,zM,zH8 h hk hc hu p8,bs,zC (by omega) (by omega),bs,cs]) (fun u hu=>by
  unfold zM7;simp only
  rw[iD (by omega),zK]) (wO ok),bs]
 rfl
theorem zLI{v:Vec}(hv:V (suf x k) v):∃w,V (suf x k) w∧mul (suf x k) v w=zeros (suf x k).length∧f_L x (fv k v)=iz (fv k w):=by
 have h6:=h.os.1;have ok:=h.okAt hk;have G:=zH6 h hk hc;have pd:=zCG h hk hv;have pL:=yP x k;unfold f_L;rw[zLH h hk hc hv,bs,pd,yX (by omega),bs,zPp h hk]
 let I:Nat→(List Int×List Int×Int)→Prop:=fun j s=> ∃A w,s=(fv k A,fv k w,(j:Int))∧V (suf x k) A∧V (suf x k) w∧mul (suf x k) v w=A∧ ∃A',A=zeros (j-k)++A'
 have key:=tL (body:=zUa x (fv k v)) (Q:=fun r=> ∃w,V (suf x k) w∧mul (suf x k) v w=zeros (suf x k).length∧r=fv k w) I x.zA.length (fun j s hj hI=>by
  obtain⟨A,w,rfl,hA,hw,hm,A',hA'⟩:=hI;left;unfold zUa;simp only
  rw[pd,yY hj,zM];rcases Jj j k with hjk|hjk
  ·have e0:ixO (fv k A) (j:Int)=iz 0:=by
    rw[vP,Jx (by rw[yC];exact hjk)];simp[zeros,hjk]
   rw[xL];unfold zQU;simp only
   rw[e0,bs,show((0:Int) != 0)=iC from rfl,zK];simp only
   rw[bs,zC (by omega) (by omega),bs,cs];exact⟨_,rfl,A,w,rfl,hA,hw,hm,A,by rw[show j+1-k=0 from by omega];rfl⟩
  ·obtain⟨i,rfl⟩:∃i,j=k+i:=⟨j-k,by omega⟩
   have hi:i<x.zA.length-k:=by omega
   rw[show k+i-k=i from by omega]at hA';have cJ:=vC h hk hA;obtain⟨a0,A',rfl⟩:∃p q,A'=p::q:=by
    cases A' with
    |nil=>rw[hA',J5,yC,Jg]at cJ;omega
    |cons p q=>exact⟨p,q,rfl⟩
   have cB:=(h.os.2 (k+i) hj).pos;have inner:=tL (body:=zQU x (fv k A,fv k w,((k+i:Nat):Int))) (s:=(fv k A,fv k w))
    (Q:=fun r=> ∃B u,r=(fv k B,fv k u)∧V (suf x k) B∧V (suf x k) u∧mul (suf x k) v u=B∧ ∃B',B=zeros (i+1)++B')
    (fun q s=> ∃B u b B',s=(fv k B,fv k u)∧V (suf x k) B∧V (suf x k) u∧mul (suf x k) v u=B∧B=zeros i++b::B'∧(b=0∨b=a0+q)) 10 (fun q s hq hs=>by
     obtain⟨B,u,b,B',rfl,hB,hu,bh,p9,hb⟩:=hs;have hz:ixO (fv k B) ((k+i:Nat):Int)=iz b:=by rw[fv,zLE (by rw[vC h hk hB];exact hi),p9,at0,J2,Jb (by rw[yC];omega),yC,Kd];rfl
     unfold zQU;simp only
     rw[hz,bs]
     by_cases aS:b=0
     ·subst aS
      right;rw[show((0:Int) != 0)=iC from rfl,zK];exact⟨_,rfl,B,u,rfl,hB,hu,bh,B',by rw[p9,zBP]⟩
     ·left
      have hbq:b=a0+q:=by rcases hb with hb|hb;exact absurd hb aS;exact hb
      rw[show(b != 0)=iB from by simpa using aS,zM,zLG h hk hc (yC k) hi hB,bs,zLG h hk hc (yC k) hi hu,bs];have hU:=zN2 h hk hc hi;obtain⟨q',v',h1,h2,h3,h4⟩:=zGz i k B (by omega) hB;have hqv:q'=zeros i∧v'=b::B':=by rw[p9]at h1;have:=List.append_inj h1 (by rw[yC,h2]);exact⟨this.1.symm,this.2.symm⟩
      obtain⟨rfl,rfl⟩:=hqv;have h7:V (suf x (k+i)) (1::zeros (x.zA.length-(k+i+1))):=by rw[yG hj];refine⟨⟨by omega,by show 1<at0 x.zA (k+i);omega⟩,?_⟩;rw[←yP];exact wO (h.okAt (by omega))
      have h8:=h4 (b::B') _ h3 h7;rw[show x.zA.length-(k+i+1)=x.zA.length-k-(i+1)from by omega,←zAs hi,←h1,yG hj,xC]at h8;refine⟨_,rfl,mul (suf x k) B (xP (x.zA.length-k) i),mul (suf x k) u (xP (x.zA.length-k) i),?_⟩;have pX:(lvl x (k+i)).o=at0 x.zA (k+i):=rfl;rw[pX]at h8
      by_cases hge:b+1≥at0 x.zA (k+i)
      ·rw[if_pos hge]at h8
       refine⟨_,_,rfl,xK ok hB hU,xK ok hu hU,?_,h8,?_⟩
       ·rw[←G.assoc hv hu hU,bh]
       ·left
        rw[yG hj]at h3;have:=h3.1.2;rw[pX]at this;omega
      ·rw[if_neg hge]at h8
       refine⟨_,_,rfl,xK ok hB hU,xK ok hu hU,?_,h8,?_⟩
       ·rw[←G.assoc hv hu hU,bh]
       ·right;omega) (fun s hs=>by
     obtain⟨B,u,b,B',rfl,hB,hu,bh,p9,hb⟩:=hs;have hz:ixO (fv k B) ((k+i:Nat):Int)=iz b:=by rw[fv,zLE (by rw[vC h hk hB];exact hi),p9,at0,J2,Jb (by rw[yC];omega),yC,Kd];rfl
     have hbr:=(zDY h.os (x.zA.length-k) k B (by omega) hB).2 i hi;have ha:=(zDY h.os (x.zA.length-k) k A (by omega) hA).2 i hi;have e1:at0 B i=b:=by rw[p9,at0,J2,Jb (by rw[yC];omega),yC,Kd];rfl
     have e2:at0 A i=a0:=by rw[hA',at0,J2,Jb (by rw[yC];omega),yC,Kd];rfl
     have aS:b=0:=by omega
     subst aS;unfold zQU;simp only
     rw[hz,bs,show((0:Int) != 0)=iC from rfl,zK];exact⟨_,rfl,B,u,rfl,hB,hu,bh,B',by rw[p9,zBP]⟩) ⟨A,w,a0,A',rfl,hA,hw,hm,hA',.inr (by omega)⟩
   obtain⟨r,r1,B,u,rfl,hB,hu,bh,B',p9⟩:=inner;rw[r1,bs,zC (by omega) (by omega),bs,cs];exact⟨_,rfl,B,u,rfl,hB,hu,bh,B',by rw[p9,show k+i+1-k=i+1 from by omega]⟩) (fun s hI=>by
  obtain⟨A,w,rfl,hA,hw,hm,A',hA'⟩:=hI;unfold zUa;simp only
  rw[pd,xR,zK];refine⟨_,rfl,w,hw,?_,rfl⟩;have cJ:=vC h hk hA;rw[hA',J5,yC]at cJ;rw[hm,hA',Ls (l:=A') (by omega),Ja,pL]) (s:=(fv k v,fv k (zeros (suf x k).length),0))
  ⟨v,_,rfl,hv,wO ok,G.oner hv,v,by rw[Jcm];rfl⟩
 obtain⟨r,r1,w,hw,hm,rfl⟩:=key;rw[r1,bs];exact⟨w,hw,hm,rfl⟩
theorem zCH{a b:Vec}(ha:V (suf x k) a)(hb:V (suf x k) b):∃c,V (suf x k) c∧mul (suf x k) b c=mul (suf x k) a b∧zUc x (fv k a) (fv k b)=iz (fv k c):=by
 have ok:=h.okAt hk;have G:=zH6 h hk hc;obtain⟨w,hw,hm,h1⟩:=zLI h hk hc hb;have bV:=xK ok ha hb;refine⟨mul (suf x k) w (mul (suf x k) a b),xK ok hw bV,?_,?_⟩
 ·rw[←G.assoc hb hw bV,hm,G.onel bV]
 ·unfold zUc
  rw[h1,bs,zD9 h hk hc ha hb,bs,zD9 h hk hc hw bV,bs]
end
theorem zN4{a b:List Int}(h:a.length≤1000000):zOl a b=iz (a==b):=
 zPj (t:=fun u v=>iz (u==v)) (body:=zTZ a b) rfl (fun _=>rfl) (by omega) fun _ _ _ _=>rfl
end Go.Pl

namespace Go.Pl
open Go Go.Ab Go.Wk Go.Pc
theorem zLJ{ρ:Type}{body:Int→Option (Int⊕(Unit⊕ρ))}(n i0:Nat)(hn:i0≤n)(P:Nat→Prop)(B:ρ→Prop)
  (h:∀i,i0≤i→i<n→(∀j,i0≤j→j<i→P j)→(body (i:Int)=iz (.inl ((i+1:Nat):Int))∧P i)∨(∃r,body (i:Int)=iz (.inr (.inr r))∧B r∧ ¬P i))
  (he:body (n:Int)=iz (.inr (.inl ()))):
  (zH body (i0:Int)=iz (.inl ())∧ ∀j,i0≤j→j<n→P j)∨ ∃r i,i0≤i∧i<n∧zH body (i0:Int)=iz (.inr r)∧B r∧ ¬P i:=by
 have key:∀k i,i0≤i→i+k=n→(∀j,i0≤j→j<i→P j)→(zH body (i:Int)=iz (.inl ())∧ ∀j,i0≤j→j<n→P j)∨ ∃r q,i0≤q∧q<n∧zH body (i:Int)=iz (.inr r)∧B r∧ ¬P q:=by
  intro k
  induction k with
  |zero=>
   intro i hi hk hp;obtain rfl:i=n:=by omega
   grind[xL]
  |succ k ih=>
   intro i hi hk hp;rcases h i hi (by omega) hp with⟨h1,h2⟩|⟨r,h1,h2,h3⟩
   ·have:=ih (i+1) (by omega) (by omega) (by grind)
    rw[xL,h1];exact this
   ·exact .inr ⟨r,i,hi,by omega,by rw[xL,h1],h2,h3⟩
 exact key (n-i0) i0 (Jl _) (by omega) fun j a b=>by omega
theorem zH9{σ ρ:Type}{body:σ→Option (σ⊕ρ)}{Q:ρ→Prop}(I:σ→Prop)(m:σ→Nat)
  (h:∀s,I s→(∃s',body s=iz (.inl s')∧I s'∧m s'<m s)∨ ∃r,body s=iz (.inr r)∧Q r):∀(k:Nat)(s:σ),m s≤k→I s→ ∃r,zH body s=iz r∧Q r
 |k,s,hk,hs=>by
  rcases h s hs with⟨s',h1,h2,h3⟩|⟨r,h1,h2⟩
  ·cases k with
   |zero=>omega
   |succ k=>
    obtain⟨r,h4,h5⟩:=zH9 I m h k s' (by omega) h2
    grind[xL]
  grind[xL]
theorem zYi{k:Nat}{a b:Vec}:(fv k a==fv k b)=iB↔a=b:=by simp
theorem zCI{x:SPr}{v:List Int}{i k:Nat}(h:Exp x.zA v i)(hk:k≤i+1)(hn:k≤x.zA.length):v=fv k (v.drop k)∧V (suf x k) (v.drop k):=by
 have h1:=h.1.1;constructor
 ·apply Kr
  intro j;rw[fv,Ks];simp only[zeros,J8,Ke,Lr];split
  ·rename_i hj
   have h2:=h.2 j (by omega)
   grind
  grind
 ·refine zYh (x.zA.length-k) k _ (by omega) (by grind) fun j hj=>?_
  have:=h.1.2 (k+j) (by omega)
  grind
structure LC (x:SPr) (k:Nat):Prop where
 c1:∀j,k+1≤j→j<x.zA.length→pw (mul (suf x (k+1))) (zeros (suf x (k+1)).length) ((lvl x k).cs.getD (j-(k+1)) []) (at0 x.zA j).toNat=sig (suf x (k+1)) (lvl x k) ((x.zR.getD j []).drop (k+1))
 c2:∀i,k+1≤i→i<x.zA.length→ ∀j,i+1≤j→j<x.zA.length→
  mul (suf x (k+1)) ((lvl x k).cs.getD (j-(k+1)) []) ((lvl x k).cs.getD (i-(k+1)) [])=mul (suf x (k+1)) ((lvl x k).cs.getD (i-(k+1)) []) (sig (suf x (k+1)) (lvl x k) (((x.zE.getD i []).getD (j-(i+1)) []).drop (k+1)))
 c3:sig (suf x (k+1)) (lvl x k) (lvl x k).w=(lvl x k).w
 c4:∀j,k+1≤j→j<x.zA.length→mul (suf x (k+1)) (lvl x k).w (iter (lvl x k).o.toNat (sig (suf x (k+1)) (lvl x k)) (xP (x.zA.length-(k+1)) (j-(k+1))))=mul (suf x (k+1)) (xP (x.zA.length-(k+1)) (j-(k+1))) (lvl x k).w
section
variable {x:SPr} (h:Pres x) {k:Nat} (hk:k<x.zA.length) (hc:wQ (suf x (k+1)))
 include h hk
theorem kW{j:Nat}(h1:k+1≤j)(h2:j<x.zA.length):ixO x.zE (k:Int)=iz (x.zE.getD k [])∧ixO (x.zE.getD k []) ((j:Int)-(k:Int)-1)=iz (fv (k+1) ((lvl x k).cs.getD (j-(k+1)) []))∧V (suf x (k+1)) ((lvl x k).cs.getD (j-(k+1)) []):=by
 obtain⟨c,c1,c2,c3,c4⟩:=zEB h hk (i:=j-(k+1)) (by omega)
 grind
theorem zSC{j:Nat}(h1:k+1≤j)(h2:j<x.zA.length):ixO x.zR (j:Int)=iz (fv (k+1) ((x.zR.getD j []).drop (k+1)))∧V (suf x (k+1)) ((x.zR.getD j []).drop (k+1)):=by
 have t1:=(h.tl j h2).1;have hl:=h.pl
 grind[zCI,yR]
theorem zSD{i j:Nat}(h1:k+1≤i)(h2:i+1≤j)(h3:j<x.zA.length):ixO x.zE (i:Int)=iz (x.zE.getD i [])∧ixO (x.zE.getD i []) ((j:Int)-(i:Int)-1)=iz (fv (k+1) (((x.zE.getD i []).getD (j-(i+1)) []).drop (k+1)))∧V (suf x (k+1)) (((x.zE.getD i []).getD (j-(i+1)) []).drop (k+1)):=by
 obtain⟨_,t2,t3⟩:=h.tl i (by omega)
 grind[zCI,yR]
theorem zYj:ixO x.zR (k:Int)=iz (fv (k+1) (lvl x k).w)∧V (suf x (k+1)) (lvl x k).w:=by have t1:=(h.tl k hk).1;have hl:=h.pl;obtain⟨e1,e2⟩:=zCI (k:=k+1) t1 (by omega) (by omega);exact⟨by rw[yR [] (by omega)];exact congrArg iz e1,e2⟩
theorem zWW{v:Vec}(hv:V (suf x (k+1)) v):V (suf x (k+1)) (sig (suf x (k+1)) (lvl x k) v):=by
 have ok0:=h.okAt (k:=k) (by omega)
 grind[yG,zCA]
theorem zJm{j:Nat}(h1:k+1≤j)(h2:j<x.zA.length):zKE (x.zA.length:Int) (j:Int)=iz (fv (k+1) (xP (x.zA.length-(k+1)) (j-(k+1)))):=by
 have h6:=h.os.1;unfold zKE;rw[yX (by omega),bs,vP,Ke,if_pos h2,bs,J9]
 congr 1
 rw[fv,zAs (by omega),←Jd];have e1:zeros (k+1)++zeros (j-(k+1))=zeros j:=by grind[zeros,Jn]
 have e2:J0 x.zA.length (0:Int)=zeros j++0::zeros (x.zA.length-(j+1)):=by simp only[zeros];rw[←Jq,Jn];grind
 grind[zD8]
theorem zQq{j:Nat}(h1:k+1≤j)(h2:j<x.zA.length):zQR (x.zA.length:Int) (j:Int)=iz (fv (k+1) (xP (x.zA.length-(k+1)) (j-(k+1)))):=zJm h hk h1 h2
 include hc
theorem zAt{v:Vec}(hv:V (suf x (k+1)) v):f_G x k (fv (k+1) v)=iz (fv (k+1) (sig (suf x (k+1)) (lvl x k) v)):=by
 have h6:=h.os.1;have ok:=h.okAt (k:=k+1) (by omega);have ok0:=h.okAt (k:=k) (by omega);rw[yG hk]at ok0;obtain⟨pd,aY⟩:=zDY h.os (x.zA.length-(k+1)) (k+1) v (by omega) hv;have gC:(lvl x k).cs.length=x.zA.length-(k+1):=by rw[ok0.2.2.1,yP]
 have t2:=(h.tl k hk).2.1;have ii:=h.cl;have hA:∀i,V (suf x (k+1)) (img (mul (suf x (k+1))) ((lvl x k).cs.take i) (v.take i) (zeros (suf x (k+1)).length)):=fun i=>
  jL (xK ok) _ _ (fun c hc=>ok0.2.2.2.1 c (by grind)) (wO ok)
 unfold f_G;rw[zCG h (by omega) hv,yX (by omega),bs,yR [] (by omega),bs,zPp h (k:=k+1) (by omega)];have:=zV (body:=zTY x k (fv (k+1) v) (x.zE.getD k [])) (r:=fv (k+1) (sig (suf x (k+1)) (lvl x k) v))
  (fun i=>(fv (k+1) (img (mul (suf x (k+1))) ((lvl x k).cs.take i) (v.take i) (zeros (suf x (k+1)).length)),(i:Int))) (x.zE.getD k []).length (fun i hi=>by
  have hr:=aY i (by omega);obtain⟨c,c1,c2,c3,c4⟩:=zEB h hk (i:=i) (by omega);unfold zTY;simp only
  rw[yY hi,zM,c2,bs,zC (by omega) (by omega),bs,zC (by omega) (by omega),bs,show(k:Int)+1+(i:Int)=((k+1+i:Nat):Int)from by omega,fv,zLE (by omega),bs];rw[uZ (S:=V (suf x (k+1))) (body:=zTX x (zeros (k+1)++c) (at0 v i)) (fun u=>fv (k+1) u) (fun u=>mul (suf x (k+1)) u c) (at0 v i) hr.1 (by grind[xK]) (fun u q hu hq=>by
   unfold zTX;simp only
   rw[iE hq,zM,zH8 h (by omega) hc hu c3,bs,zC (by omega) (by omega),bs,cs]) (fun u hu=>by
   unfold zTX;simp) (hA i),bs,zC (by omega) (by omega),bs,cs]
  rw[zBx _ _ _ _ (by omega) (by omega),c4]) (by
  unfold zTY;simp only
  rw[xR,zK,Jr (by omega),Jr (by omega)];rfl)
 simp only[K5,img]at this
 grind
theorem zCJ{a b:Vec}(ha:V (suf x (k+1)) a):IsB (zOl (fv (k+1) a) (fv (k+1) b)) (a=b):=by
 have _:=hc;have h6:=h.os.1
 grind[zN4,zCG,IsB.of_bool,zYi]
theorem zLK{c:Vec}(p8:V (suf x (k+1)) c){e:Int}(e0:0≤e)(e1:e≤1000):zWd x ((k+1:Nat):Int) (fv (k+1) c) e=iz (fv (k+1) (pw (mul (suf x (k+1))) (zeros (suf x (k+1)).length) c e.toNat)):=by
 have h6:=h.os.1;have ok:=h.okAt (k:=k+1) (by omega);have G:=zH6 h (k:=k+1) (by omega) hc;have hA:=zPo h (k:=k+1) (by omega);have pwV:∀a,V (suf x (k+1)) (pw (mul (suf x (k+1))) (zeros (suf x (k+1)).length) c a):=fun a=>tV G.toMon p8 a
 unfold zWd;rw[yX (by omega),bs,zPp h (k:=k+1) (by omega)];obtain⟨r,r1,r2⟩:=zH9 (body:=zPT x ((k+1:Nat):Int)) (Q:=fun r=>r=fv (k+1) (pw (mul (suf x (k+1))) (zeros (suf x (k+1)).length) c e.toNat))
  (fun s=> ∃(m a q:Nat),s=((m:Int),fv (k+1) (pw (mul (suf x (k+1))) (zeros (suf x (k+1)).length) c a),fv (k+1) (pw (mul (suf x (k+1))) (zeros (suf x (k+1)).length) c q))∧a+q*m=e.toNat∧m≤1000) (fun s=>s.1.toNat) (fun s ⟨m,a,q,hs,he,hm⟩=>by
   subst hs;unfold zPT;simp only
   by_cases hm0:m=0
   ·grind
   ·left
    have hr:tT (m:Int) 2=iz ((m%2:Nat):Int):=by rfl
    have hq:sL (m:Int) 2=iz ((m/2:Nat):Int):=by
     unfold sL;rw[if_neg (by decide),Int.tdiv_eq_ediv_of_nonneg (by omega)]
     grind[zC]
    have ma:=H3 m 2;have ag:mul (suf x (k+1)) (pw (mul (suf x (k+1))) (zeros (suf x (k+1)).length) c q) (pw (mul (suf x (k+1))) (zeros (suf x (k+1)).length) c q)=pw (mul (suf x (k+1))) (zeros (suf x (k+1)).length) c (q+q):=(zHz G.toMon p8 q q).symm;rw[iE (by omega),zM,hr,bs];rcases Nat.mod_two_eq_zero_or_one m with h2|h2
    ·rw[h2,show((((0:Nat):Int))==1)=iC from rfl,zK,hA _ _ (pwV q) (pwV q),bs,hq,bs,ag]
     refine⟨_,rfl,⟨m/2,a,q+q,rfl,?_,by omega⟩,by omega⟩
     grind
    ·rw[h2,show((((1:Nat):Int))==1)=iB from rfl,zM,hA _ _ (pwV a) (pwV q),bs,hA _ _ (pwV q) (pwV q),bs,hq,bs,ag,←zHz G.toMon p8 a q]
     refine⟨_,rfl,⟨m/2,a+q,q+q,rfl,?_,by omega⟩,by omega⟩
     grind) 1000000 (e,fv (k+1) (zeros (suf x (k+1)).length),fv (k+1) c) (by omega) ⟨e.toNat,0,1,by rw[zS4 G.toMon p8,show((e.toNat:Nat):Int)=e from by omega];rfl,by omega,by omega⟩
 grind
end
end Go.Pl

namespace Go.Pl
open Go Go.Ab Go.Wk Go.Pc
def yA4(o:Option xM)(P:Prop):Prop:=(o=iz (xM.mk 0 0 0 0)∧P)∨ ∃r,o=iz r∧r.Kind≠0∧ ¬P
theorem kb{a b c d:Int}(h:a≠0):(xM.mk a b c d).Kind≠0:=h
abbrev KB(r:xM):Prop:=r.Kind≠0
theorem zBy{o:Option Bool}{P:Prop}{bad:xM}{i:Nat}{g:Option (Int⊕(Unit⊕xM))}(h:IsB o P)(hi:i<9223372036854775807)(iq:bad.Kind≠0)
  (hg:g=o.bind fun r=>cond (!r) (iz (.inr (.inr bad))) ((rng ((i:Int)+1)).bind fun v=>iz (.inl v))):(g=iz (.inl ((i+1:Nat):Int))∧P)∨(∃r,g=iz (.inr (.inr r))∧KB r∧ ¬P):=by
 rcases zBO h hi hg with h|⟨h1,h2⟩
 ·exact .inl h
 ·exact .inr ⟨bad,h1,iq,h2⟩
section
variable {x:SPr} (h:Pres x) {k:Nat} (hk:k<x.zA.length) (hc:wQ (suf x (k+1)))
 include h hk hc
theorem zN5:yA4 (f_p x k) (LC x k):=by
 have h6:=h.os.1;have ok:=h.okAt (k:=k+1) (by omega);have G:=zH6 h (k:=k+1) (by omega) hc;obtain⟨w1,w2⟩:=zYj h hk;have cX:∀v,V (suf x (k+1)) v→V (suf x (k+1)) (sig (suf x (k+1)) (lvl x k) v):=fun v hv=>zWW h hk hv
 unfold f_p;rw[zC (by omega) (by omega),bs,cs];rcases zLJ (body:=zUd x k) x.zA.length (k+1) (by omega) (fun j=>pw (mul (suf x (k+1))) (zeros (suf x (k+1)).length) ((lvl x k).cs.getD (j-(k+1)) []) (at0 x.zA j).toNat=sig (suf x (k+1)) (lvl x k) ((x.zR.getD j []).drop (k+1))) KB (fun j h1 h2 _=>by
   obtain⟨c1,c2,c3⟩:=kW h hk h1 h2;obtain⟨p1,p2⟩:=zSC h hk h1 h2;have cB:=(h.os.2 j h2).pos;refine zBy (zCJ h hk hc (tV G.toMon c3 (at0 x.zA j).toNat)) (by omega) (bad:=xM.mk 1 k j 0) (kb (by decide)) ?_;unfold zUd;rw[yY h2,zM,c1,bs,zC (by omega) (by omega),bs,zC (by omega) (by omega),bs,c2,bs,yQ h2,bs,zN3 h (by omega) hc c3 (by omega) (by omega),bs,p1,bs,zAt h hk hc p2,bs]) (by
   unfold zUd;rw[xR,zK])with⟨g1,g2⟩|⟨r,j,j1,j2,g1,g2,g3⟩
 rotate_left
 ·rw[g1,bs]
  exact .inr ⟨r,rfl,g2,fun q=>g3 (q.c1 j j1 j2)⟩
 rw[g1,bs];simp only
 rw[bs];rcases zLJ (body:=zUf x k) x.zA.length (k+1) (by omega) (fun i=> ∀j,i+1≤j→j<x.zA.length→
   mul (suf x (k+1)) ((lvl x k).cs.getD (j-(k+1)) []) ((lvl x k).cs.getD (i-(k+1)) [])=mul (suf x (k+1)) ((lvl x k).cs.getD (i-(k+1)) []) (sig (suf x (k+1)) (lvl x k) (((x.zE.getD i []).getD (j-(i+1)) []).drop (k+1)))) KB (fun i h1 h2 _=>by
   obtain⟨c1,c2,c3⟩:=kW h hk h1 h2;unfold zUf;rw[yY h2,zM,zC (by omega) (by omega),bs,cs];rcases zLJ (body:=zUe x k i) x.zA.length (i+1) (by omega) (fun j=>mul (suf x (k+1)) ((lvl x k).cs.getD (j-(k+1)) []) ((lvl x k).cs.getD (i-(k+1)) [])=mul (suf x (k+1)) ((lvl x k).cs.getD (i-(k+1)) []) (sig (suf x (k+1)) (lvl x k) (((x.zE.getD i []).getD (j-(i+1)) []).drop (k+1)))) KB (fun j h3 h4 _=>by
     obtain⟨d1,d2,d3⟩:=kW h hk (j:=j) (by omega) h4;obtain⟨e1,e2,e3⟩:=zSD h hk h1 h3 h4;obtain⟨q,q1,q2,q3⟩:=zCH h (by omega) hc d3 c3;refine zBy ((zCJ h hk hc (b:=sig (suf x (k+1)) (lvl x k) (((x.zE.getD i []).getD (j-(i+1)) []).drop (k+1))) q1).iff (Q:=mul (suf x (k+1)) ((lvl x k).cs.getD (j-(k+1)) []) ((lvl x k).cs.getD (i-(k+1)) [])=mul (suf x (k+1)) ((lvl x k).cs.getD (i-(k+1)) []) (sig (suf x (k+1)) (lvl x k) (((x.zE.getD i []).getD (j-(i+1)) []).drop (k+1)))) ?_) (by omega) (bad:=xM.mk 2 k i j) (kb (by decide)) ?_
     ·exact⟨fun e=>by rw[←q2,e],fun e=>G.cancel_l c3 q1 (cX _ e3) (by rw[q2,e])⟩
     ·unfold zUe
      rw[yY h4,zM,d1,bs,zC (by omega) (by omega),bs,zC (by omega) (by omega),bs,d2,bs,bs,zC (by omega) (by omega),bs,zC (by omega) (by omega),bs,c2,bs,q3,bs,e1,bs,zC (by omega) (by omega),bs,zC (by omega) (by omega),bs,e2,bs,zAt h hk hc e3,bs]) (by
     unfold zUe;rw[xR,zK])with⟨g1,g2⟩|⟨r,j,j1,j2,g1,g2,g3⟩
   ·left
    rw[g1,bs];exact⟨rfl,g2⟩
   ·right
    rw[g1,bs];exact⟨r,rfl,g2,fun q=>g3 (q j j1 j2)⟩) (by
   unfold zUf;rw[xR,zK])with⟨k1,k2⟩|⟨r,j,j1,j2,k1,k2,k3⟩
 rotate_left
 ·rw[k1,bs]
  exact .inr ⟨r,rfl,k2,fun q=>k3 (q.c2 j j1 j2)⟩
 rw[k1,bs];simp only
 rw[w1,bs,zAt h hk hc w2,bs];rcases zCJ h hk hc (b:=(lvl x k).w) (cX _ w2)with⟨m1,m2⟩|⟨m1,m2⟩
 rotate_left
 ·rw[m1,bs,Kq,zM]
  exact .inr ⟨_,rfl,kb (by decide),fun q=>m2 q.c3⟩
 rw[m1,bs,Kc,zK,bs];rcases zLJ (body:=zUh x k (fv (k+1) (lvl x k).w)) x.zA.length (k+1) (by omega) (fun j=>mul (suf x (k+1)) (lvl x k).w (iter (lvl x k).o.toNat (sig (suf x (k+1)) (lvl x k)) (xP (x.zA.length-(k+1)) (j-(k+1))))=mul (suf x (k+1)) (xP (x.zA.length-(k+1)) (j-(k+1))) (lvl x k).w) KB (fun j h1 h2 _=>by
   have hU:=zN2 h (k:=k+1) (by omega) hc (i:=j-(k+1)) (by omega);have cB:=(h.os.2 k hk).pos;obtain⟨q,q1,q2,q3⟩:=zCH h (k:=k+1) (by omega) hc hU w2;have e6:V (suf x (k+1)) (iter (lvl x k).o.toNat (sig (suf x (k+1)) (lvl x k)) (xP (x.zA.length-(k+1)) (j-(k+1)))):=vO cX _ hU;refine zBy ((zCJ h hk hc (b:=q) e6).iff ⟨fun e=>by rw[e,q2],fun e=>G.cancel_l w2 e6 q1 (by rw[e,q2])⟩) (by omega) (bad:=xM.mk 4 k j 0) (kb (by decide)) ?_;unfold zUh;rw[yY h2,zM,zJm h hk h1 h2,bs,yQ hk,bs];rw[uZ (S:=V (suf x (k+1))) (body:=zUg x k (at0 x.zA k)) (fun u=>fv (k+1) u) (sig (suf x (k+1)) (lvl x k)) (at0 x.zA k) (by omega) cX (fun u i hu hi=>by
    unfold zUg;simp only
    rw[iE hi,zM,zAt h hk hc hu,bs,zC (by omega) (by omega),bs,cs]) (fun u hu=>by
    unfold zUg;simp only
    rw[iD (by omega),zK]) hU,bs,bs,q3,bs]
   rfl) (by
   unfold zUh;rw[xR,zK])with⟨n1,n2⟩|⟨r,j,j1,j2,n1,n2,n3⟩
 ·rw[n1,bs]
  exact .inl ⟨rfl,⟨g2,k2,m2,n2⟩⟩
 ·rw[n1,bs]
  exact .inr ⟨r,rfl,n2,fun q=>n3 (q.c4 j j1 j2)⟩
theorem zN6:yA4 (f_q x k) (LC x k):=by
 have h6:=h.os.1;have ok:=h.okAt (k:=k+1) (by omega);have G:=zH6 h (k:=k+1) (by omega) hc;obtain⟨w1,w2⟩:=zYj h hk;have hA:=zPo h (k:=k+1) (by omega);have hI:=zN0 h hk;have cX:∀v,V (suf x (k+1)) v→V (suf x (k+1)) (sig (suf x (k+1)) (lvl x k) v):=fun v hv=>zWW h hk hv
 have eqB:∀{a b:Vec},V (suf x (k+1)) a→IsB (zQQ (fv (k+1) a) (fv (k+1) b)) (a=b):=fun ha=>zCJ h hk hc ha
 unfold f_q;rw[zC (by omega) (by omega),bs,cs];rcases zLJ (body:=zTJ x k) x.zA.length (k+1) (by omega) (fun j=>pw (mul (suf x (k+1))) (zeros (suf x (k+1)).length) ((lvl x k).cs.getD (j-(k+1)) []) (at0 x.zA j).toNat=sig (suf x (k+1)) (lvl x k) ((x.zR.getD j []).drop (k+1))) KB (fun j h1 h2 _=>by
   obtain⟨c1,c2,c3⟩:=kW h hk h1 h2;obtain⟨p1,p2⟩:=zSC h hk h1 h2;have cB:=(h.os.2 j h2).pos;refine zBy (eqB (tV G.toMon c3 (at0 x.zA j).toNat)) (by omega) (bad:=xM.mk 1 k j 0) (kb (by decide)) ?_;unfold zTJ;rw[yY h2,zM,zC (by omega) (by omega),bs,cs,c1,bs,zC (by omega) (by omega),bs,zC (by omega) (by omega),bs,c2,bs,yQ h2,bs,zLK h hk hc c3 (by omega) (by omega),bs,p1,bs,hI _ p2,bs]) (by
   unfold zTJ;rw[xR,zK])with⟨g1,g2⟩|⟨r,j,j1,j2,g1,g2,g3⟩
 rotate_left
 ·rw[g1,bs]
  exact .inr ⟨r,rfl,g2,fun q=>g3 (q.c1 j j1 j2)⟩
 rw[g1,bs];simp only
 rw[bs];rcases zLJ (body:=zTL x k) x.zA.length (k+1) (by omega) (fun i=> ∀j,i+1≤j→j<x.zA.length→
   mul (suf x (k+1)) ((lvl x k).cs.getD (j-(k+1)) []) ((lvl x k).cs.getD (i-(k+1)) [])=mul (suf x (k+1)) ((lvl x k).cs.getD (i-(k+1)) []) (sig (suf x (k+1)) (lvl x k) (((x.zE.getD i []).getD (j-(i+1)) []).drop (k+1)))) KB (fun i h1 h2 _=>by
   obtain⟨c1,c2,c3⟩:=kW h hk h1 h2;unfold zTL;rw[yY h2,zM,zC (by omega) (by omega),bs,cs];rcases zLJ (body:=zTK x k i) x.zA.length (i+1) (by omega) (fun j=>mul (suf x (k+1)) ((lvl x k).cs.getD (j-(k+1)) []) ((lvl x k).cs.getD (i-(k+1)) [])=mul (suf x (k+1)) ((lvl x k).cs.getD (i-(k+1)) []) (sig (suf x (k+1)) (lvl x k) (((x.zE.getD i []).getD (j-(i+1)) []).drop (k+1)))) KB (fun j h3 h4 _=>by
     obtain⟨d1,d2,d3⟩:=kW h hk (j:=j) (by omega) h4;obtain⟨e1,e2,e3⟩:=zSD h hk h1 h3 h4;refine zBy (eqB (xK ok d3 c3)) (by omega) (bad:=xM.mk 2 k i j) (kb (by decide)) ?_;unfold zTK;rw[yY h4,zM,d1,bs,zC (by omega) (by omega),bs,zC (by omega) (by omega),bs,c2,bs,bs,zC (by omega) (by omega),bs,zC (by omega) (by omega),bs,d2,bs,e1,bs,zC (by omega) (by omega),bs,zC (by omega) (by omega),bs,e2,bs,hI _ e3,bs,zC (by omega) (by omega),bs,cs,hA _ _ d3 c3,bs,bs,hA _ _ c3 (cX _ e3),bs]) (by
     unfold zTK;rw[xR,zK])with⟨g1,g2⟩|⟨r,j,j1,j2,g1,g2,g3⟩
   ·left
    rw[g1,bs];exact⟨rfl,g2⟩
   ·right
    rw[g1,bs];exact⟨r,rfl,g2,fun q=>g3 (q j j1 j2)⟩) (by
   unfold zTL;rw[xR,zK])with⟨k1,k2⟩|⟨r,j,j1,j2,k1,k2,k3⟩
 rotate_left
 ·rw[k1,bs]
  exact .inr ⟨r,rfl,k2,fun q=>k3 (q.c2 j j1 j2)⟩
 rw[k1,bs];simp only
 rw[w1,bs,hI _ w2,bs];rcases eqB (b:=(lvl x k).w) (cX _ w2)with⟨m1,m2⟩|⟨m1,m2⟩
 rotate_left
 ·rw[m1,bs,Kq,zM]
  exact .inr ⟨_,rfl,kb (by decide),fun q=>m2 q.c3⟩
 rw[m1,bs,Kc,zK,bs];rcases zLJ (body:=zTN x k (fv (k+1) (lvl x k).w)) x.zA.length (k+1) (by omega) (fun j=>mul (suf x (k+1)) (lvl x k).w (iter (lvl x k).o.toNat (sig (suf x (k+1)) (lvl x k)) (xP (x.zA.length-(k+1)) (j-(k+1))))=mul (suf x (k+1)) (xP (x.zA.length-(k+1)) (j-(k+1))) (lvl x k).w) KB (fun j h1 h2 _=>by
   have hU:=zN2 h (k:=k+1) (by omega) hc (i:=j-(k+1)) (by omega);have cB:=(h.os.2 k hk).pos;have e6:V (suf x (k+1)) (iter (lvl x k).o.toNat (sig (suf x (k+1)) (lvl x k)) (xP (x.zA.length-(k+1)) (j-(k+1)))):=vO cX _ hU;refine zBy (eqB (xK ok w2 e6)) (by omega) (bad:=xM.mk 4 k j 0) (kb (by decide)) ?_;unfold zTN;rw[yY h2,zM,zQq h hk h1 h2,bs];rw[uZ (S:=V (suf x (k+1))) (body:=zTM x k) (fun u=>fv (k+1) u) (sig (suf x (k+1)) (lvl x k)) (at0 x.zA k) (by omega) cX (fun u i hu hi=>by
    unfold zTM;simp only
    rw[yQ hk,bs,iE hi,zM,hI _ hu,bs,zC (by omega) (by omega),bs,cs]) (fun u hu=>by
    unfold zTM;simp only
    rw[yQ hk,bs,iD (by omega),zK]) hU,bs,zC (by omega) (by omega),bs,cs]
   have ho:(lvl x k).o=at0 x.zA k:=rfl;rw[←ho,hA _ _ w2 e6,bs,bs,hA _ _ hU w2,bs]) (by
   unfold zTN;rw[xR,zK])with⟨n1,n2⟩|⟨r,j,j1,j2,n1,n2,n3⟩
 ·rw[n1,bs]
  exact .inl ⟨rfl,⟨g2,k2,m2,n2⟩⟩
 ·rw[n1,bs]
  exact .inr ⟨r,rfl,n2,fun q=>n3 (q.c4 j j1 j2)⟩
end
end Go.Pl

namespace Go.Pl
open Go Go.Ab Go.Wk Go.Pc
theorem zF5{m:Vec→Vec→Vec}:∀(i:Nat)(cs:List Vec)(w acc:Vec),i≤cs.length→img m cs (zeros i++w) acc=img m (cs.drop i) w acc
 |0,cs,w,acc,_=>rfl
 |i+1,[],w,acc,h=>by simp at h
 |i+1,c::cs,w,acc,h=>by show img m (c::cs) (0::(zeros i++w)) acc=_;simp only[img,Gb,iter,Jcp];exact zF5 i cs w acc (by simpa using h)
theorem zHA{x:SPr}{v:List Int}{j k:Nat}(h:Exp x.zA v j)(hj:j<x.zA.length)(hk:k≤j+1):v.drop k=zeros (j+1-k)++v.drop (j+1):=by
 have:=zAy h hj;have h2:v.drop k=(zeros (j+1)++v.drop (j+1)).drop k:=by rw[←this]
 rw[h2,Jc9,yC,show k-(j+1)=0 from by omega,Hv]
 congr 1
 simp only[zeros,Lb]
section
variable {x:SPr} (h:zGf x) {k:Nat} (hk:k<x.zA.length)
 include h hk
theorem zAz:(lvl x k).cs.length=x.zA.length-(k+1):=by have ok0:=h.okAt (k:=k) (by omega);rw[yG hk]at ok0;rw[ok0.2.2.1,yP]
theorem zVB{j:Nat}(h1:k+1≤j)(h2:j<x.zA.length):sig (suf x (k+1)) (lvl x k) ((x.zR.getD j []).drop (k+1))=img (mul (suf x (k+1))) ((lvl x k).cs.drop (j-k)) (lvl x j).w (zeros (suf x (k+1)).length):=by have t1:=(h.tl j h2).1;have gC:=zAz h hk;rw[zHA t1 h2 (by omega),sig,zF5 _ _ _ _ (by omega),show j+1-(k+1)=j-k from by omega];rfl
theorem zPq:∀(d i:Nat),k+1+i+d=x.zA.length→(Rel (mul (suf x (k+1))) (zeros (suf x (k+1)).length) (suf x (k+1+i)) ((lvl x k).cs.drop i)↔
  (∀j,k+1+i≤j→j<x.zA.length→pw (mul (suf x (k+1))) (zeros (suf x (k+1)).length) ((lvl x k).cs.getD (j-(k+1)) []) (at0 x.zA j).toNat=sig (suf x (k+1)) (lvl x k) ((x.zR.getD j []).drop (k+1)))∧
  (∀a,k+1+i≤a→a<x.zA.length→ ∀j,a+1≤j→j<x.zA.length→
   mul (suf x (k+1)) ((lvl x k).cs.getD (j-(k+1)) []) ((lvl x k).cs.getD (a-(k+1)) [])=mul (suf x (k+1)) ((lvl x k).cs.getD (a-(k+1)) []) (sig (suf x (k+1)) (lvl x k) (((x.zE.getD a []).getD (j-(a+1)) []).drop (k+1)))))
 |0,i,hi=>by have gC:=zAz h hk;rw[vV (x:=x) (k:=k+1+i) (by omega),Ur (show(lvl x k).cs.length≤i by omega)];simp only[Rel,true_iff];exact⟨fun j h1 h2=>by omega,fun a h1 h2=>by omega⟩
 |d+1,i,hi=>by
  have gC:=zAz h hk;have ih:=zPq d (i+1) (by omega);rw[show k+1+(i+1)=k+1+i+1 from by omega]at ih;have hj:k+1+i<x.zA.length:=by omega
  have hg:(lvl x k).cs.drop i=(lvl x k).cs.getD i []::(lvl x k).cs.drop (i+1):=by rw[Hy (by omega),J2,J3 (by omega)];rfl
  rw[yG hj,hg];simp only[Rel];rw[ih];have e1:=zVB h hk (j:=k+1+i) (by omega) hj;rw[show k+1+i-k=i+1 from by omega]at e1;have ho:(lvl x (k+1+i)).o=at0 x.zA (k+1+i):=rfl;rw[ho,←e1];have e2:∀j,k+1+i+1≤j→j<x.zA.length→ ∀dd,(lvl x (k+1+i)).cs[j-(k+1+i+1)]? =iz dd→img (mul (suf x (k+1))) ((lvl x k).cs.drop (i+1)) dd (zeros (suf x (k+1)).length)=sig (suf x (k+1)) (lvl x k) (((x.zE.getD (k+1+i) []).getD (j-(k+1+i+1)) []).drop (k+1)):=fun j h1 h2 dd hdd=>by
   obtain⟨_,t2,t3⟩:=h.tl (k+1+i) hj;have t:=t3 (j-(k+1+i+1)) (by omega);rw[zHA t hj (by omega),sig,zF5 _ _ _ _ (by omega),show k+1+i+1-(k+1)=i+1 from by omega]
   congr 1
   simp only[lvl,K4,L6]at hdd;obtain⟨u,hu,rfl⟩:=hdd;rw[J2 (i:=j-(k+1+i+1)),hu];rfl
  have e3:∀j,k+1+i+1≤j→j<x.zA.length→((lvl x k).cs.drop (i+1))[j-(k+1+i+1)]? =iz ((lvl x k).cs.getD (j-(k+1)) [])∧ ∃dd,(lvl x (k+1+i)).cs[j-(k+1+i+1)]? =iz dd:=fun j h1 h2=>by
   have ii:=zAz h hj;refine⟨?_,?_⟩
   ·rw[Lr,show i+1+(j-(k+1+i+1))=j-(k+1)from by omega,J2,J3 (by omega)];rfl
   ·exact⟨_,J3 (by omega)⟩
  constructor
  ·rintro⟨a1,a2,a3,a4⟩
   refine⟨fun j h1 h2=>?_,fun a h1 h2 j h3 h4=>?_⟩
   ·rcases Jj (k+1+i) j with gE|hge
    ·exact a3 j (by omega) h2
    ·obtain rfl:j=k+1+i:=by omega
     rw[show k+1+i-(k+1)=i from by omega];exact a1
   ·rcases Jj (k+1+i) a with gE|hge
    ·exact a4 a (by omega) h2 j h3 h4
    ·obtain rfl:a=k+1+i:=by omega
     obtain⟨f1,dd,f2⟩:=e3 j (by omega) h4;have:=a2 _ _ _ f1 f2;rw[e2 j (by omega) h4 dd f2]at this;rw[show k+1+i-(k+1)=i from by omega];exact this
  ·rintro⟨a1,a2⟩
   refine⟨?_,fun kk c dd h1 h2=>?_,fun j h1 h2=>a1 j (by omega) h2,fun a h1 h2=>a2 a (by omega) h2⟩
   ·have:=a1 (k+1+i) (by omega) hj
    rw[show k+1+i-(k+1)=i from by omega]at this;exact this
   ·have gE:kk<x.zA.length-(k+1+i+1):=by
     have:=(Jw.1 h1).1;rw[K3]at this;omega
    have g:=a2 (k+1+i) (by omega) hj (k+1+i+1+kk) (by omega) (by omega);obtain⟨f1,_⟩:=e3 (k+1+i+1+kk) (by omega) (by omega);rw[show k+1+i+1+kk-(k+1+i+1)=kk from by omega]at f1 g;rw[h1]at f1;have f1:=Ld.inj f1;have g2:=e2 (k+1+i+1+kk) (by omega) (by omega) dd (by rw[show k+1+i+1+kk-(k+1+i+1)=kk from by omega];exact h2);rw[show k+1+i+1+kk-(k+1+i+1)=kk from by omega]at g2;rw[g2,f1];rw[show k+1+i-(k+1)=i from by omega]at g;exact g
theorem zAD:wQ (suf x k)↔wQ (suf x (k+1))∧LC x k:=by
 have hr:=zPq h hk (x.zA.length-(k+1)) 0 (by omega);have hl:=yP x (k+1);rw[Hv,G9]at hr;rw[yG hk];simp only[wQ];rw[hr];constructor
 ·rintro⟨a,⟨b1,b2⟩,c,d⟩
  refine⟨a,⟨b1,b2,c,fun j h1 h2=>?_⟩⟩;have:=d (j-(k+1)) (by omega)
  rwa [hl]at this
 ·rintro⟨a,b⟩
  refine⟨a,⟨b.c1,b.c2⟩,b.c3,fun j hj=>?_⟩;have:=b.c4 (k+1+j) (by omega) (by omega);rw[show k+1+j-(k+1)=j from by omega]at this
  rwa [hl]
end
theorem zBz{x:SPr}(h:wQ (suf x 0))(k:Nat):wQ (suf x k):=by
 have:=zEC h k
 rwa [Jf]at this
def kE(x:SPr):Prop:=Pres x∧wQ (suf x 0)∧zCk x
theorem zAR{x:SPr}(hl:x.zA.length≤1048576):IsB (zUi x) (kE x):=by
 unfold zUi;rcases zAh hl with⟨h1,h2⟩|⟨h1,h2⟩
 ·have h6:=h2.os.1
  rw[h1,bs,zM];unfold zYT;obtain⟨r,r1,r2⟩:=tL (body:=zM8 x) (Q:=fun r=> ∃s:Nat,r=(s:Int)∧wQ (suf x s)∧(s=0∨ ¬wQ (suf x (s-1)))) (fun i s=>i≤x.zA.length∧s=((x.zA.length-i:Nat):Int)∧wQ (suf x (x.zA.length-i))) x.zA.length (fun i s hi ⟨_,hs,gQ⟩=>by
    subst hs;have hk:x.zA.length-i-1<x.zA.length:=by omega
    have e9:x.zA.length-(i+1)=x.zA.length-i-1:=by omega
    rw[e9];have e8:i+1≤x.zA.length:=by omega
    rw[show x.zA.length-i=x.zA.length-i-1+1 from by omega]at gQ ⊢
    have bj:=zN5 h2.toPres hk gQ;have fq:=zAD h2.toPres.w hk
    generalize x.zA.length-i-1=k at*
    unfold zM8;rw[iE (by omega),zM,zC (by omega) (by omega),bs,show(((k+1:Nat):Int)-1)=(k:Int)from by omega];rcases bj with⟨g1,g2⟩|⟨r,g1,g2,g3⟩
    ·left
     rw[g1,bs];simp only[beq_self_eq_true,Bool.and_true];rw[zM,bs];exact⟨_,rfl,e8,rfl,fq.2 ⟨gQ,g2⟩⟩
    ·right
     rw[g1,bs,show(r.Kind==0)=iC from by simpa using g2,Jcs,zK];refine⟨_,rfl,k+1,rfl,gQ,.inr fun q=>g3 (fq.1 q).2⟩) (fun s ⟨_,hs,gQ⟩=>by
    rw[Kd]at hs gQ;subst hs;unfold zM8;rw[show decide (((0:Nat):Int)> 0)=iC from rfl,zK];exact⟨_,rfl,0,rfl,gQ,.inl rfl⟩) (s:=(x.zA.length:Int)) ⟨by omega,by rw[G7],by rw[G7,vV (by omega)];simp only[wQ]⟩
  obtain⟨s,rfl,gQ,hs⟩:=r2;rw[r1,bs,bs];cases s with
  |zero=>exact .inl ⟨rfl,h2.toPres,gQ,h2⟩
  |succ s=>
   refine .inr ⟨?_,fun q=>?_⟩
   ·congr 1
   ·rcases hs with hs|hs
    ·omega
    ·exact hs (zBz q.2.1 _)
 ·rw[h1,bs,zK]
  exact .inr ⟨rfl,fun q=>h2 q.2.2⟩
theorem zHB{x:SPr}(hl:x.zA.length≤1048576):IsB (zTO x) (kE x):=by
 unfold zTO;rcases zAi hl with⟨h1,h2⟩|⟨h1,h2⟩
 ·have h6:=h2.os.1
  rw[h1,bs,zM];unfold zYO zYN;rw[zC (by omega) (by omega),bs];obtain⟨r,r1,r2⟩:=tL (body:=zM6 x) (Q:=fun r=>(r=.inl ()∧wQ (suf x 0))∨ ∃f,r=.inr f∧f.Kind≠0∧ ¬wQ (suf x 0)) (fun i s=>i≤x.zA.length∧s=((x.zA.length-i:Nat):Int)-1∧wQ (suf x (x.zA.length-i))) x.zA.length (fun i s hi ⟨_,hs,gQ⟩=>by
    subst hs;have hk:x.zA.length-i-1<x.zA.length:=by omega
    have e9:x.zA.length-(i+1)=x.zA.length-i-1:=by omega
    rw[e9];have e8:i+1≤x.zA.length:=by omega
    rw[show x.zA.length-i=x.zA.length-i-1+1 from by omega]at gQ ⊢
    have bj:=zN6 h2.toPres hk gQ;have fq:=zAD h2.toPres.w hk
    generalize x.zA.length-i-1=k at*
    unfold zM6;rw[show(((k+1:Nat):Int)-1)=(k:Int)from by omega,iE (by omega),zM];rcases bj with⟨g1,g2⟩|⟨r,g1,g2,g3⟩
    ·left
     rw[g1,bs];simp only
     rw[show((0:Int) != 0)=iC from rfl,zK,zC (by omega) (by omega),bs];exact⟨_,rfl,e8,rfl,fq.2 ⟨gQ,g2⟩⟩
    ·right
     rw[g1,bs,show(r.Kind != 0)=iB from by simpa using g2,zM];exact⟨_,rfl,.inr ⟨r,rfl,g2,fun q=>g3 (fq.1 (zBz q _)).2⟩⟩) (fun s ⟨_,hs,gQ⟩=>by
    rw[Kd]at hs gQ;subst hs;unfold zM6;rw[show decide (((0:Nat):Int)-1≥0)=iC from rfl,zK];exact⟨_,rfl,.inl ⟨rfl,gQ⟩⟩) (s:=(x.zA.length:Int)-1) ⟨by omega,by rw[G7],by rw[G7,vV (by omega)];simp only[wQ]⟩
  rw[r1,bs];rcases r2 with⟨rfl,q⟩|⟨f,rfl,g1,g2⟩
  ·exact .inl ⟨rfl,h2.toPres,q,h2⟩
  ·simp only
   rw[bs,show(f.Kind==0)=iC from by simpa using g1];exact .inr ⟨rfl,fun q=>g2 q.2.1⟩
 ·rw[h1,bs,zK]
  exact .inr ⟨rfl,fun q=>h2 q.2.2⟩
end Go.Pl

namespace Go.Pl
open Go Go.Ab Go.Wk
abbrev Mx:=List (List Int)
def S:Nat→(Nat→Int)→Int
 |0,_=>0
 |n+1,f=>S n f+f n
theorem xQ{n:Nat}{f g:Nat→Int}(h:∀i,i<n→f i=g i):S n f=S n g:=by
 induction n with
 |zero=>rfl
 |succ n ih=>simp only[S];rw[ih fun i hi=>h i (by omega),h n (by omega)]
theorem kX{p:Int}{f g:Nat→Int}:∀{n:Nat},(∀i,i<n→f i%p=g i%p)→S n f%p=S n g%p
 |0,_=>rfl
 |n+1,h=>by simp only[S];rw[Kf,kX (n:=n) fun i hi=>h i (by omega),h n (by omega),←Kf]
theorem qL:∀n:Nat,S n (fun _=>0)=0
 |0=>rfl
 |n+1=>by simp only[S,qL n];rfl
theorem zCK{f g:Nat→Int}:∀n:Nat,S n (fun i=>f i+g i)=S n f+S n g
 |0=>rfl
 |n+1=>by simp only[S,zCK n];omega
theorem zLL{f:Nat→Int}(a:Int):∀n:Nat,S n (fun i=>f i*a)=S n f*a
 |0=>by simp[S]
 |n+1=>by simp only[S,zLL a n,Ja2]
theorem zCL{f:Nat→Int}(a:Int):∀n:Nat,S n (fun i=>a*f i)=a*S n f
 |0=>by simp[S]
 |n+1=>by simp only[S,zCL a n,Ja1]
theorem zHC{f:Nat→Nat→Int}(m:Nat):∀n:Nat,S n (fun i=>S m (fun j=>f i j))=S m (fun j=>S n (fun i=>f i j))
 |0=>by simp only[S];exact(qL m).symm
 |n+1=>by simp only[S];rw[zHC m n,zCK]
theorem zAj{f:Nat→Int}{k:Nat}:∀{n:Nat},k<n→(∀i,i<n→i≠k→f i=0)→S n f=f k
 |0,h,_=>by omega
 |n+1,h,hz=>by
  simp only[S]
  by_cases hk:k=n
  ·subst hk
   rw[xQ (g:=fun _=>0) fun i hi=>hz i (by omega) (by omega),qL];omega
  ·rw[zAj (n:=n) (by omega) fun i hi=>hz i (by omega),hz n (by omega) (by omega)];omega
def mkv(D:Nat)(f:Nat→Int):List Int:=(Ji D).map f
theorem yA(D:Nat)(f:Nat→Int):(mkv D f).length=D:=by simp[mkv]
theorem zDi{D:Nat}{f:Nat→Int}{i:Nat}(h:i<D):(mkv D f)[i]? =iz (f i):=by simp[mkv,h]
theorem yH{D:Nat}{f:Nat→Int}{i:Nat}(h:i<D):at0 (mkv D f) i=f i:=by rw[at0,J2,zDi h];rfl
theorem zZ{D:Nat}{f g:Nat→Int}(h:∀i,i<D→f i=g i):mkv D f=mkv D g:=by unfold mkv;apply Qk;intro i hi;exact h i (by simpa using hi)
theorem qU{D:Nat}{f:Nat→Int}{j:Nat}{a:Int}:(mkv D f).set j a=mkv D (fun i=>if i=j then a else f i):=by
 apply Kr;intro i;rw[Jby,yA]
 by_cases hi:i<D
 ·by_cases gM:j=i
  ·subst gM;rw[if_pos rfl,if_pos hi,zDi hi,if_pos rfl]
  ·rw[if_neg gM,zDi hi,zDi hi,if_neg fun h=>gM h.symm]
 ·have h1:∀g:Nat→Int,(mkv D g)[i]? =iA:=fun g=>Jp (by rw[yA];omega)
  rw[h1,h1]
  by_cases gM:j=i
  ·subst gM;rw[if_pos rfl,if_neg hi]
  ·rw[if_neg gM]
theorem vY{v:List Int}{D:Nat}(h:v.length=D):v=mkv D (at0 v):=by
 apply Kr;intro i
 by_cases hi:i<D
 ·rw[zDi hi,at0,J2,J3 (by omega)];rfl
 ·rw[Jp (by omega),Jp (by rw[yA];omega)]
theorem tN(D:Nat):J0 D (0:Int)=mkv D (fun _=>0):=by
 apply Kr;intro i
 by_cases hi:i<D
 ·rw[zDi hi];simp[hi]
 ·rw[Jp (by simp;omega),Jp (by rw[yA];omega)]
abbrev ent(B:Mx)(l j:Nat):Int:=at0 (B.getD l []) j
def wD(p:Int)(D:Nat)(r:List Int)(B:Mx):List Int:=mkv D fun j=>S D (fun l=>at0 r l*ent B l j)%p
def PM(p:Int)(D:Nat)(A B:Mx):Mx:=A.map fun r=>wD p D r B
def idM(D:Nat):Mx:=(Ji D).map fun i=>mkv D fun j=>if j=i then 1 else 0
def Row(p:Int)(D:Nat)(r:List Int):Prop:=r.length=D∧ ∀i,i<D→0≤at0 r i∧at0 r i≤p-1
def Mat(p:Int)(D:Nat)(A:Mx):Prop:=A.length=D∧ ∀i,i<D→Row p D (A.getD i [])
theorem zBQ{p:Int}{D i:Nat}{A B:Mx}(h:i<A.length):(PM p D A B).getD i []=wD p D (A.getD i []) B:=by simp only[PM,J2,K4,J3 h];rfl
theorem tO{p:Int}{D:Nat}{A B:Mx}:(PM p D A B).length=A.length:=by simp[PM]
theorem zHD{p:Int}{D:Nat}{A B:Mx}(hp:0<p)(hA:A.length=D):Mat p D (PM p D A B):=by refine⟨by rw[tO,hA],fun i hi=>?_⟩;rw[zBQ (by omega)];refine⟨by rw[wD,yA],fun j hj=>?_⟩;rw[wD,yH hj];have h1:=L5 (S D fun l=>at0 (A.getD i []) l*ent B l j) (show p≠0 by omega);have h2:=Kl (S D fun l=>at0 (A.getD i []) l*ent B l j) hp;omega
theorem zN7{p:Int}{D i j:Nat}{A B:Mx}(hA:A.length=D)(hi:i<D)(hj:j<D):ent (PM p D A B) i j=S D (fun l=>ent A i l*ent B l j)%p:=by rw[ent,zBQ (by omega),wD,yH hj]
theorem zHE{D:Nat}{A B:Mx}(hA:A.length=D)(hB:B.length=D)(h:∀i,i<D→A.getD i []=B.getD i []):A=B:=by
 apply Kr;intro i
 by_cases hi:i<D
 ·have:=h i hi
  rw[J2,J2,J3 (by omega),J3 (by omega)]at this;rw[J3 (by omega),J3 (by omega)];exact congrArg iz this
 ·rw[Jp (by omega),Jp (by omega)]
theorem zLM{p:Int}{D:Nat}{A B C:Mx}(hA:A.length=D)(hB:B.length=D):PM p D (PM p D A B) C=PM p D A (PM p D B C):=by
 refine zHE (by rw[tO,tO,hA]) (by rw[tO,hA]) fun i hi=>?_
 rw[zBQ (A:=PM p D A B) (by rw[tO];omega),zBQ (A:=A) (B:=PM p D B C) (by omega)];unfold wD;refine zZ fun j hj=>?_
 have e1:S D (fun l=>at0 ((PM p D A B).getD i []) l*ent C l j)%p=S D (fun l=>S D (fun q=>ent A i q*ent B q l)*ent C l j)%p:=kX fun l hl=>by
  have:=zN7 (p:=p) (B:=B) hA hi hl;simp only[ent]at this ⊢
  rw[this,Jv,K9,←Jv]
 have e2:S D (fun l=>at0 (A.getD i []) l*ent (PM p D B C) l j)%p=S D (fun q=>ent A i q*S D (fun l=>ent B q l*ent C l j))%p:=kX fun q hq=>by rw[zN7 hB hq hj,Jv,K9,←Jv]
 rw[e1,e2]
 congr 1
 have e3:(fun l=>S D (fun q=>ent A i q*ent B q l)*ent C l j)=fun l=>S D (fun q=>ent A i q*ent B q l*ent C l j):=funext fun l=>(zLL _ _).symm
 have e4:(fun q=>ent A i q*S D (fun l=>ent B q l*ent C l j))=fun q=>S D (fun l=>ent A i q*ent B q l*ent C l j):=funext fun q=>by rw[←zCL];exact xQ fun l _=>by rw[H8]
 rw[e3,e4];exact zHC D D
theorem uJ(D:Nat):(idM D).length=D:=by simp[idM]
theorem zDj{D i:Nat}(h:i<D):(idM D).getD i []=mkv D fun j=>if j=i then 1 else 0:=by simp[idM,J2,h]
theorem qC{p:Int}{D:Nat}(hp:2≤p):Mat p D (idM D):=by refine⟨uJ D,fun i hi=>?_⟩;rw[zDj hi];refine⟨yA _ _,fun j hj=>?_⟩;rw[yH hj];split<;>omega
theorem qD{p a:Int}(h:0≤a∧a≤p-1):a%p=a:=Kb h.1 (by omega)
theorem zEE{p:Int}{D:Nat}{B:Mx}(hB:Mat p D B):PM p D (idM D) B=B:=by
 refine zHE (by rw[tO,uJ]) hB.1 fun i hi=>?_
 rw[zBQ (by rw[uJ];exact hi),zDj hi,wD];obtain⟨h1,h2⟩:=hB.2 i hi;refine Eq.trans (zZ fun j hj=>?_) (vY h1).symm;rw[zAj (k:=i) hi fun l hl gf=>by rw[yH hl,if_neg gf,U6],yH hi,if_pos rfl,Jbv];exact qD (h2 j hj)
theorem zCM{p:Int}{D:Nat}{A:Mx}(hA:Mat p D A):PM p D A (idM D)=A:=by
 refine zHE (by rw[tO,hA.1]) hA.1 fun i hi=>?_
 rw[zBQ (by rw[hA.1];exact hi),wD];obtain⟨h1,h2⟩:=hA.2 i hi;refine Eq.trans (zZ fun j hj=>?_) (vY h1).symm;rw[zAj (k:=j) hj fun l hl gf=>by rw[ent,zDj hl,yH hj,if_neg (fun h=>gf h.symm),L4],ent,zDj hj,yH hj,if_pos rfl,Hf];exact qD (h2 j hj)
theorem zSE{p:Int}{D i j:Nat}{B:Mx}(hB:Mat p D B)(hi:i<D)(hj:j<D):ixO B (i:Int)=iz (B.getD i [])∧ixO (B.getD i []) (j:Int)=iz (ent B i j)∧(B.getD i []).length=D∧0≤ent B i j∧ent B i j≤p-1:=by obtain⟨h1,h2⟩:=hB.2 i hi;have:=hB.1;exact⟨yR [] (by omega),yQ (by omega),h1,h2 j hj⟩
def acc(p:Int)(D i:Nat)(r:List Int)(B:Mx):List Int:=mkv D fun j=>S i (fun l=>at0 r l*ent B l j)%p
def zDv(p:Int)(D i k:Nat)(r:List Int)(B:Mx):List Int:=mkv D fun j=>if j<k then S (i+1) (fun l=>at0 r l*ent B l j)%p else S i (fun l=>at0 r l*ent B l j)%p
theorem zJn{p:Int}{D i:Nat}{r:List Int}{B:Mx}:zDv p D i 0 r B=acc p D i r B:=zZ fun j _=>by rw[if_neg (by omega)]
theorem zJo{p:Int}{D i:Nat}{r:List Int}{B:Mx}:zDv p D i D r B=acc p D (i+1) r B:=zZ fun j hj=>by rw[if_pos hj]
theorem zLN{p:Int}{D i k:Nat}{r:List Int}{B:Mx}(hk:k<D){a:Int}(ha:a=(at0 (zDv p D i k r B) k+at0 r i*ent B i k)%p):(zDv p D i k r B).set k a=zDv p D i (k+1) r B:=by
 subst ha;simp only[zDv];rw[qU,yH hk,if_neg (by omega)];refine zZ fun j hj=>?_
 by_cases hjk:j=k
 ·subst hjk
  rw[if_pos rfl,if_pos (by omega)];simp only[S];rw[Jcr]
 ·rw[if_neg hjk]
  by_cases gE:j<k
  ·rw[if_pos gE,if_pos (by omega)]
  ·rw[if_neg gE,if_neg (by omega)]
theorem zLO{p:Int}{D i k j:Nat}{r:List Int}{B:Mx}(hp:0<p)(hj:j<D):0≤at0 (zDv p D i k r B) j∧at0 (zDv p D i k r B) j≤p-1:=by
 rw[zDv,yH hj];split
 ·have h1:=L5 (S (i+1) fun l=>at0 r l*ent B l j) (show p≠0 by omega)
  have h2:=Kl (S (i+1) fun l=>at0 r l*ent B l j) hp;omega
 ·have h1:=L5 (S i fun l=>at0 r l*ent B l j) (show p≠0 by omega)
  have h2:=Kl (S i fun l=>at0 r l*ent B l j) hp;omega
theorem zHF{p:Int}{D i k:Nat}{r:List Int}{B:Mx}:(zDv p D i k r B).length=D:=yA _ _
theorem zPr{p:Int}{D i k j:Nat}{r:List Int}{B:Mx}(hj:j<D):ixO (zDv p D i k r B) (j:Int)=iz (at0 (zDv p D i k r B) j):=yQ (by rw[zHF];exact hj)
theorem zLP{p:Int}{D:Nat}{r:List Int}{B:Mx}:J0 D (0:Int)=acc p D 0 r B:=by rw[tN];exact zZ fun j _=>by simp[S]
theorem zJp{a b p:Int}(hp:p≤7)(ha:0≤a∧a≤p-1)(hb:0≤b∧b≤p-1):0≤a*b∧a*b≤36:=by have h1:0≤a*b:=Gy ha.1 hb.1;have h2:a*b≤6*6:=Lu (by omega) (by omega) hb.1 (by omega);omega
section
variable {p:Int}{D:Nat} (hp:Prime p) (hD:D≤8)
 include hp hD
theorem zHG{r:List Int}{B:Mx}(hr:Row p D r)(hB:Mat p D B):f_M p r B (D:Int)=iz (wD p D r B):=by
 have h7:=hp.pos;have hBl:=hB.1;have cZ:=hr.1;unfold f_M;rw[yX (by omega),bs,zLP (p:=p) (r:=r) (B:=B)];have:=zV (body:=zTQ p r B) (r:=acc p D D r B) (fun i=>(acc p D i r B,(i:Int))) D (fun i hi=>by
  have dI:=hr.2 i hi;unfold zTQ;simp only
  rw[cZ,hBl,yY hi,zM,zM];have inner:=zV (body:=zTP p r B (acc p D i r B,(i:Int))) (r:=acc p D (i+1) r B) (fun k=>(zDv p D i k r B,(k:Int))) D (fun k hk=>by
   obtain⟨b1,b2,b3,b4⟩:=zSE hB hi hk;have ha:=zLO (p:=p) (i:=i) (k:=k) (r:=r) (B:=B) (by omega) hk;have hm:=zJp (by omega) dI b4;unfold zTP;simp only
   rw[zHF,yY hk,zM,b1,bs,b3,yY hk,zM,zPr hk,bs,yQ (by omega),bs,bs,b2,bs,zC (by omega) (by omega),bs,zC (by omega) (by omega),bs];have dK:tT (at0 (zDv p D i k r B) k+at0 r i*ent B i k) p=iz ((at0 (zDv p D i k r B) k+at0 r i*ent B i k)%p):=by unfold tT;rw[if_neg (by omega),Kz (by omega)]
   rw[dK,bs,bs,zC (by omega) (by omega),bs,cs,J9,zLN hk rfl]) (by
   unfold zTP;simp only
   rw[zHF,xR,zK,zJo])
  rw[zJn,show((0:Nat):Int)=0 from rfl]at inner;rw[inner,bs,zC (by omega) (by omega),bs,cs]) (by
  unfold zTQ;simp only
  rw[cZ,xR,zK])
 rw[show((0:Nat):Int)=0 from rfl]at this;rw[this,bs];rfl
theorem zKd{a:Int}(h0:0≤a)(_h1:a≤1000):zKG a p=iz (a%p):=by
 have _:=hD;have h7:=hp.pos;have e1:=L5 a (show p≠0 by omega);have e2:=Kl a (show 0<p by omega);unfold zKG tT;rw[if_neg (by omega),bs,Kz h0,zC (by omega) (by omega),bs,if_neg (by omega),bs,Kz (by omega)]
 congr 1
 rw[Uk,K9]
theorem zF6{i:Nat}{r:List Int}{B:Mx}(hi:i<D)(hr:Row p D r)(hB:Mat p D B):f_x (acc p D i r B) (B.getD i []) (at0 r i) p=iz (acc p D (i+1) r B):=by
 have h7:=hp.pos;have dI:=hr.2 i hi;unfold f_x;have hl:(acc p D i r B).length=D:=yA _ _;have inner:=zV (body:=zM9 (acc p D i r B) (B.getD i []) (at0 r i) p) (r:=acc p D (i+1) r B) (fun k=>(zDv p D i k r B,(k:Int))) D (fun k hk=>by
  obtain⟨b1,b2,b3,b4⟩:=zSE hB hi hk;have ha:=zLO (p:=p) (i:=i) (k:=k) (r:=r) (B:=B) (by omega) hk;have hm:=zJp (by omega) dI b4;unfold zM9;simp only
  rw[hl,yY hk,zM,zPr hk,bs,b2,bs,zC (by omega) (by omega),bs,zC (by omega) (by omega),bs,zKd hp hD (by omega) (by omega),bs,bs,zC (by omega) (by omega),bs,cs,J9,zLN hk rfl]) (by
  unfold zM9;simp only
  rw[hl,xR,zK,zJo])
 rw[zJn,show((0:Nat):Int)=0 from rfl]at inner;rw[inner,bs]
theorem zB0{r:List Int}{B:Mx}{q:Int}(hr:Row p D r)(hB:Mat p D B)(hq:q=(D:Int)):zUq r (zU.mk p q B)=iz (wD p D r B):=by
 subst hq;have cZ:=hr.1;unfold zUq;simp only
 rw[yX (by omega),bs,zLP (p:=p) (r:=r) (B:=B)];have:=zV (body:=zMA r (zU.mk p (D:Int) B)) (r:=acc p D D r B) (fun i=>(acc p D i r B,(i:Int))) D (fun i hi=>by
  have hBl:=hB.1;unfold zMA;simp only
  rw[cZ,yY hi,zM,yQ (by omega),bs,yR [] (by omega),bs,zF6 hp hD hi hr hB,bs,zC (by omega) (by omega),bs,cs]) (by
  unfold zMA;simp only
  rw[cZ,xR,zK])
 rw[show((0:Nat):Int)=0 from rfl]at this;rw[this,bs];rfl
theorem zQr{A B:Mx}{i:Nat}(hi:i<A.length):(PM p D A B).take i++[wD p D (A.getD i []) B]=(PM p D A B).take (i+1):=by
 have _:=hp;have _:=hD;rw[K0 (by rw[tO];exact hi)]
 congr 2
 have:=zBQ (p:=p) (D:=D) (B:=B) hi;rw[J2,J3 (by rw[tO];exact hi)]at this;exact this.symm
theorem zI0{A B:Mx}{q:Int}(hA:Mat p D A)(hB:Mat p D B):zWi (zU.mk p q A) (zU.mk p (D:Int) B)=iz (zU.mk p (D:Int) (PM p D A B)):=by
 have cJ:=hA.1;unfold zWi;have:=zV (body:=zMB (zU.mk p q A) (zU.mk p (D:Int) B)) (r:=PM p D A B) (fun i=>((PM p D A B).take i,(i:Int))) D (fun i hi=>by
  unfold zMB;simp only
  rw[cJ,yY hi,zM,yR [] (by omega),bs,zB0 hp hD (hA.2 i hi) hB rfl,bs,yE (by rw[Jz,tO];simp;omega),bs,zC (by omega) (by omega),bs,cs,zQr hp hD (by omega)]) (by
  unfold zMB;simp only
  rw[cJ,xR,zK,Jr (by rw[tO];omega)])
 rw[show((0:Nat):Int)=0 from rfl,K5]at this;rw[this,bs]
theorem zLQ{i:Nat}(_hi:i<D):(J0 D (0:Int)).set i 1=mkv D fun j=>if j=i then 1 else 0:=by have _:=hp;have _:=hD;rw[tN,qU]
theorem zPs{i:Nat}(hi:i<D):(idM D).take i++[mkv D fun j=>if j=i then 1 else 0]=(idM D).take (i+1):=by
 have _:=hp;have _:=hD;rw[K0 (by rw[uJ];exact hi)]
 congr 2
 have:=zDj hi;rw[J2,J3 (by rw[uJ];exact hi)]at this;exact this.symm
theorem zN8:f_C (D:Int)=iz (idM D):=by
 unfold f_C;have:=zV (body:=zIq (D:Int)) (r:=idM D) (fun i=>((idM D).take i,(i:Int))) D (fun i hi=>by
  unfold zIq;simp only
  rw[yY hi,zM,yX (by omega),bs,vP,Ke,if_pos hi,bs,J9,zLQ hp hD hi,yE (by rw[Jz,uJ];simp;omega),bs,zC (by omega) (by omega),bs,cs,zPs hp hD hi]) (by
  unfold zIq;simp only
  rw[xR,zK,Jr (by rw[uJ];omega)])
 rw[show((0:Nat):Int)=0 from rfl,K5]at this;rw[this,bs]
theorem zBc:f_H p (D:Int)=iz (zU.mk p (D:Int) (idM D)):=by
 unfold f_H;have:=zV (body:=zKF (D:Int)) (r:=idM D) (fun i=>((idM D).take i,(i:Int))) D (fun i hi=>by
  unfold zKF;simp only
  rw[yY hi,zM,yX (by omega),bs,vP,Ke,if_pos hi,bs,J9,zLQ hp hD hi,yE (by rw[Jz,uJ];simp;omega),bs,zC (by omega) (by omega),bs,cs,zPs hp hD hi]) (by
  unfold zKF;simp only
  rw[xR,zK,Jr (by rw[uJ];omega)])
 rw[show((0:Nat):Int)=0 from rfl,K5]at this;rw[this,bs]
end
end Go.Pl

namespace Go.Pl
open Go Go.Ab Go.Wk Go.Pc
def nw:Nat→List Int→List Nat
 |_,[]=>[]
 |o,a::v=>J0 a.toNat o++nw (o+1) v
theorem zDk:∀(o:Nat)(u v:List Int),nw o (u++v)=nw o u++nw (o+u.length) v
 |o,[],v=>by simp[nw]
 |o,a::u,v=>by simp only[Jy,nw,zDk (o+1) u v,Jd,J6];rw[show o+1+u.length=o+(u.length+1)from by omega]
theorem zPt{v:List Int}{i:Nat}(h:i<v.length):nw 0 (v.take (i+1))=nw 0 (v.take i)++J0 (at0 v i).toNat i:=by rw[K0 h,zDk,Jz,G8 (by omega),Jf];simp only[nw,Ja];rw[at0,J2,J3 h];rfl
theorem zLR{n:Nat}:∀(o:Nat)(v:List Int),o+v.length≤n→ ∀w∈nw o v,w<n
 |o,[],_,w,h=>by simp[nw]at h
 |o,a::v,hv,w,h=>by
  simp only[nw,Jh,J6]at h hv;rcases h with h|h
  ·have:=Jm h;omega
  ·exact zLR (o+1) v (by omega) w h
theorem zF7:∀(o:Nat)(v:List Int),(∀i,i<v.length→at0 v i≤6)→(nw o v).length≤6*v.length
 |o,[],_=>by simp[nw]
 |o,a::v,h=>by
  have h0:=h 0 (by simp);have:=zF7 (o+1) v fun i hi=>by have:=h (i+1) (by simpa using hi);simpa[at0]using this
  simp only[at0,H7]at h0;simp only[nw,J5,J8,J6];omega
def wM(p:Int)(D:Nat)(A:List Mx)(ws:List Nat)(B:Mx):Mx:=ws.foldl (fun B w=>PM p D B (A.getD w [])) B
theorem zF8{p:Int}{D:Nat}{A:List Mx}{u v:List Nat}{B:Mx}:wM p D A (u++v) B=wM p D A v (wM p D A u B):=by simp[wM,Ub]
theorem zN9{p:Int}{D:Nat}{A:List Mx}{w:Nat}:∀(k:Nat)(B:Mx),wM p D A (J0 k w) B=iter k (fun B=>PM p D B (A.getD w [])) B
 |0,_=>rfl
 |k+1,B=>by rw[Jq];show wM p D A (J0 k w) (PM p D B (A.getD w []))=_;rw[zN9 k];rfl
theorem zHH{p:Int}{D:Nat}{A:List Mx}(hp:0<p):∀(ws:List Nat){B:Mx},Mat p D B→Mat p D (wM p D A ws B)
 | [],_,hB=>hB
 |_w::ws,_,hB=>zHH hp ws (zHD hp hB.1)
theorem zKe{p:Int}{D:Nat}{A:List Mx}(hp:0<p){C:Mx}(hC:C.length=D):∀(ws:List Nat){B:Mx},Mat p D B→wM p D A ws (PM p D C B)=PM p D C (wM p D A ws B)
 | [],_,_=>rfl
 |w::ws,B,hB=>by show wM p D A ws (PM p D (PM p D C B) (A.getD w []))=PM p D C (wM p D A ws (PM p D B (A.getD w [])));rw[zLM hC hB.1,zKe hp hC ws (zHD hp hB.1)]
structure MOk (n:Nat) (m:zF) (D:Nat):Prop where
 p:Prime m.Prime
 d:m.Dim=(D:Int)
 d1:1≤D
 d3:D≤3
 len:m.zP.length=n
 mat:∀i,i<n→Mat m.Prime D (m.zP.getD i [])
structure zYk (n:Nat) (m:zF) (D:Nat):Prop where
 p:Prime m.Prime
 d:m.Dim=(D:Int)
 d3:D≤30
 len:m.zP.length=n
 mat:∀i,i<n→Mat m.Prime D (m.zP.getD i [])
structure zSF (n:Nat) (m:zF) (D:Nat):Prop where
 p:Prime m.Prime
 d1:1≤D
 d3:D≤200
 len:m.zP.length=n
 mat:∀i,i<n→Mat m.Prime D (m.zP.getD i [])
theorem MOk.b{n D:Nat}{m:zF}(h:MOk n m D):zSF n m D:=⟨h.p,h.d1,by have:=h.d3;omega,h.len,h.mat⟩
section
variable {n D:Nat}{m:zF} (hm:MOk n m D) (hn:n≤9)
 include hm hn
abbrev enW(ws:List Nat):List Int:=ws.map fun(w:Nat)=>(w:Int)+1
theorem zDA{i:Nat}(hi:i<n):zUj m (i:Int)=iz (zU.mk m.Prime (D:Int) (m.zP.getD i [])):=by have _:=hn;have gj:=hm.len;unfold zUj;rw[yR [] (by omega),bs,hm.d]
theorem zI1{ws:List Nat}(hw:∀w∈ws,w<n)(hl:ws.length≤1000000):f_Q m (enW ws)=iz (zU.mk m.Prime (D:Int) (wM m.Prime D m.zP ws (idM D))):=by
 have h7:=hm.p.pos;have h3:=hm.d3;unfold f_Q;rw[hm.d,zBc hm.p (by omega),bs];have hI:∀i,Mat m.Prime D (wM m.Prime D m.zP (ws.take i) (idM D)):=fun i=>zHH (by omega) _ (qC h7.1)
 have bT:(enW ws).length=ws.length:=by simp only[enW,Je]
 have:=zV (body:=zUr m (enW ws)) (r:=(m.Prime,(D:Int),wM m.Prime D m.zP ws (idM D))) (fun i=>(m.Prime,(D:Int),wM m.Prime D m.zP (ws.take i) (idM D),(i:Int))) ws.length (fun i hi=>by
  have mH:=hw ws[i] (Ka hi);unfold zUr;simp only
  rw[bT,yY hi,zM,vP,K4,J3 hi];simp only[Ho];rw[bs,zC (by omega) (by omega),bs,show((ws[i]:Nat):Int)+1-1=((ws[i]:Nat):Int)from by omega,zDA hm hn mH,bs,zI0 hm.p (by omega) (hI i) (hm.mat _ mH),bs,zC (by omega) (by omega),bs,cs,K0 hi,zF8];rfl) (by
  unfold zUr;simp only
  rw[bT,xR,zK,Jr (by omega)])
 rw[show((0:Nat):Int)=0 from rfl,K5]at this;simp only[wM,Jab]at this;simp only
 rw[this,bs];rfl
end
theorem zAd{v:List Int}(hl:v.length≤9)(hv:∀i,i<v.length→0≤at0 v i∧at0 v i≤6):f_z v=iz (enW (nw 0 v)):=by
 unfold f_z;have gj:∀i,(nw 0 (v.take i)).length≤54:=fun i=>by
  have:=zF7 0 (v.take i) fun j hj=>by
   rw[Jz]at hj;have e:at0 (v.take i) j=at0 v j:=by simp only[at0,J2,Uq];rw[if_pos (by omega)]
   rw[e];exact(hv j (by omega)).2
  rw[Jz]at this;omega
 have:=zV (body:=zUm v) (r:=enW (nw 0 v)) (fun i=>(enW (nw 0 (v.take i)),(i:Int))) v.length (fun i hi=>by
  have hvi:=hv i hi;have hli:=gj i;unfold zUm;simp only
  rw[yY hi,zM,yQ hi,bs];have inner:=zV (body:=zUl (enW (nw 0 (v.take i)),(i:Int)) (at0 v i)) (r:=enW (nw 0 (v.take (i+1)))) (fun k=>(enW (nw 0 (v.take i)++J0 k i),(k:Int))) (at0 v i).toNat (fun k hk=>by
   unfold zUl;simp only
   rw[iE (by omega),zM,zC (by omega) (by omega),bs,yE (by simp only[Je,J5,J8,J6,Jg];omega),bs,zC (by omega) (by omega),bs,cs]
   congr 3
   rw[Ln,←Jd];simp only[enW,Kj,Js,He];rfl) (by
   unfold zUl;simp only
   rw[iD (by omega),zK,zPt hi])
  rw[show((0:Nat):Int)=0 from rfl,Ko,Ja]at inner;rw[inner,bs,zC (by omega) (by omega),bs,cs]) (by
  unfold zUm;simp only
  rw[xR,zK,Lj])
 rw[show((0:Nat):Int)=0 from rfl,K5]at this;simp only[nw,enW,He]at this;rw[this,bs]
theorem zLS{v o:Int}(h:zUk 1 (IntKind.wrap .u64 o)=iz (0,o)):zUk (IntKind.wrap .u64 (([v]:List Int).length:Int)) (IntKind.wrap .u64 o)=iz (0,o):=by rw[show IntKind.wrap .u64 (([v]:List Int).length:Int)=1 from by simp;decide];exact h
theorem zCN{v o:Int}(ho:Prime o):f_e [v] o=iz (J0 o.toNat v):=by
 unfold f_e;rcases ho with rfl|rfl|rfl|rfl
 ·have h:=zV (body:=uN) (r:=[v,v]) (fun i=>match i with|0=>([v,0],1)|_=>([v,v],2)) 1 (fun i hi=>by
   match i,hi with
   |0,_=>simp[uN,yB,xJ,rng,inR]) (by simp[uN])
  rw[zLS (by decide+kernel),bs];have hl:xH (IntKind.wrap .i64 2)=iz 2:=by decide+kernel
  simp only[hl,bs];rw[show decide ((2:Int)<0)=iC from rfl,zK,show decide ((0:Int)> 0)=iC from rfl,zK,show decide ((2:Int)> 9223372036854775807)=iC from by decide,zK];have e2:xJ (J0 2 (0:Int)) 0 (([v]:List Int).take ((J0 2 (0:Int)).length-0))=[v,0]:=by simp[xJ,J0]
  have e3:((min ([v]:List Int).length ((J0 2 (0:Int)).length-0):Nat):Int)=1:=by simp
  rw[e2,e3];have h':zH uN ([v,0],1)=_:=h;rw[h',bs];rfl
 ·have h:=zV (body:=uN) (r:=[v,v,v]) (fun i=>match i with|0=>([v,0,0],1)|1=>([v,v,0],2)|_=>([v,v,v],3)) 2 (fun i hi=>by
   match i,hi with
   |0,_=>simp[uN,yB,xJ,rng,inR]
   |1,_=>simp[uN,yB,xJ,rng,inR]) (by simp[uN])
  rw[zLS (by decide+kernel),bs];have hl:xH (IntKind.wrap .i64 3)=iz 3:=by decide+kernel
  simp only[hl,bs];rw[show decide ((3:Int)<0)=iC from rfl,zK,show decide ((0:Int)> 0)=iC from rfl,zK,show decide ((3:Int)> 9223372036854775807)=iC from by decide,zK];have e2:xJ (J0 3 (0:Int)) 0 (([v]:List Int).take ((J0 3 (0:Int)).length-0))=[v,0,0]:=by simp[xJ,J0]
  have e3:((min ([v]:List Int).length ((J0 3 (0:Int)).length-0):Nat):Int)=1:=by simp
  rw[e2,e3];have h':zH uN ([v,0,0],1)=_:=h;rw[h',bs];rfl
 ·have h:=zV (body:=uN) (r:=[v,v,v,v,v]) (fun i=>match i with|0=>([v,0,0,0,0],1)|1=>([v,v,0,0,0],2)|2=>([v,v,v,v,0],4)|_=>([v,v,v,v,v],5)) 3 (fun i hi=>by
   match i,hi with
   |0,_=>simp[uN,yB,xJ,rng,inR]
   |1,_=>simp[uN,yB,xJ,rng,inR]
   |2,_=>simp[uN,yB,xJ,rng,inR]) (by simp[uN])
  rw[zLS (by decide+kernel),bs];have hl:xH (IntKind.wrap .i64 5)=iz 5:=by decide+kernel
  simp only[hl,bs];rw[show decide ((5:Int)<0)=iC from rfl,zK,show decide ((0:Int)> 0)=iC from rfl,zK,show decide ((5:Int)> 9223372036854775807)=iC from by decide,zK];have e2:xJ (J0 5 (0:Int)) 0 (([v]:List Int).take ((J0 5 (0:Int)).length-0))=[v,0,0,0,0]:=by simp[xJ,J0]
  have e3:((min ([v]:List Int).length ((J0 5 (0:Int)).length-0):Nat):Int)=1:=by simp
  rw[e2,e3];have h':zH uN ([v,0,0,0,0],1)=_:=h;rw[h',bs];rfl
 ·have h:=zV (body:=uN) (r:=[v,v,v,v,v,v,v]) (fun i=>match i with|0=>([v,0,0,0,0,0,0],1)|1=>([v,v,0,0,0,0,0],2)|2=>([v,v,v,v,0,0,0],4)|_=>([v,v,v,v,v,v,v],7)) 3 (fun i hi=>by
   match i,hi with
   |0,_=>simp[uN,yB,xJ,rng,inR]
   |1,_=>simp[uN,yB,xJ,rng,inR]
   |2,_=>simp[uN,yB,xJ,rng,inR]) (by simp[uN])
  rw[zLS (by decide+kernel),bs];have hl:xH (IntKind.wrap .i64 7)=iz 7:=by decide+kernel
  simp only[hl,bs];rw[show decide ((7:Int)<0)=iC from rfl,zK,show decide ((0:Int)> 0)=iC from rfl,zK,show decide ((7:Int)> 9223372036854775807)=iC from by decide,zK];have e2:xJ (J0 7 (0:Int)) 0 (([v]:List Int).take ((J0 7 (0:Int)).length-0))=[v,0,0,0,0,0,0]:=by simp[xJ,J0]
  have e3:((min ([v]:List Int).length ((J0 7 (0:Int)).length-0):Nat):Int)=1:=by simp
  rw[e2,e3];have h':zH uN ([v,0,0,0,0,0,0],1)=_:=h;rw[h',bs];rfl
end Go.Pl

namespace Go.Pl
open Go Go.Ab Go.Wk Go.Pc
def zF9(x:SPr)(m:zF)(D:Nat):Prop:=
 ∀i,i<x.zA.length→wM m.Prime D m.zP (J0 (at0 x.zA i).toNat i) (idM D)=wM m.Prime D m.zP (nw 0 (x.zR.getD i [])) (idM D)∧
  ∀j,i+1≤j→j<x.zA.length→PM m.Prime D (m.zP.getD j []) (m.zP.getD i [])=PM m.Prime D (m.zP.getD i []) (wM m.Prime D m.zP (nw 0 ((x.zE.getD i []).getD (j-(i+1)) [])) (idM D))
theorem zA0{x:SPr}{v:List Int}{i:Nat}(ho:Os x.zA)(h:Exp x.zA v i):v.length=x.zA.length∧ ∀j,j<x.zA.length→0≤at0 v j∧at0 v j≤6:=by have h1:=h.1.1;refine⟨h1,fun j hj=>?_⟩;have:=h.1.2 j (by omega);have:=(ho.2 j hj).pos;omega
end Go.Pl

namespace Go.Pl
open Go Go.Ab Go.Wk Go.Pc
abbrev Rl:=List Nat×List Nat
def r1(x:SPr)(i:Nat):Rl:=(J0 (at0 x.zA i).toNat i,nw 0 (x.zR.getD i []))
def r2(x:SPr)(i j:Nat):Rl:=([i+j+1,i],i::nw 0 ((x.zE.getD i []).getD j []))
def R2(x:SPr)(i:Nat):List Rl:=(Ji (x.zE.getD i []).length).map (r2 x i)
def tC(x:SPr):List Rl:=(Ji x.zA.length).map (r1 x)++(Ji x.zA.length).flatMap (R2 x)
abbrev enR(q:Rl):List Int×List Int:=(enW q.1,enW q.2)
section
variable {x:SPr} (h:Pres x)
 include h
theorem zYl{i:Nat}(hi:i<x.zA.length):(R2 x i).length≤9:=by have:=(h.tl i hi).2.1;have:=h.os.1;simp only[R2,Je,Kt];omega
theorem zKf:∀i,i≤x.zA.length→((Ji i).flatMap (R2 x)).length≤9*i
 |0,_=>by simp
 |i+1,hi=>by have:=zKf i (by omega);have:=zYl h (i:=i) (by omega);rw[Lo,G5,J5];simp only[Li,Qr,Ja];omega
theorem zVC{k i:Nat}:enW (J0 k i)=J0 k ((i:Int)+1):=by have _:=h;simp[enW]
theorem zDZ:f_B x=iz ((tC x).map enR):=by
 have h6:=h.os.1;have pM:=h.pl;have gC:=h.cl;unfold f_B;have l1:=zV (body:=zUn x) (r:=((Ji x.zA.length).map (r1 x)).map enR) (fun i=>(((Ji i).map (r1 x)).map enR,(i:Int))) x.zA.length (fun i hi=>by
  obtain⟨p1,p2⟩:=zA0 h.os (h.tl i hi).1;unfold zUn;simp only
  rw[yY hi,zM,yQ hi,bs,zC (by omega) (by omega),bs,zCN (h.os.2 i hi),bs,yR [] (by omega),bs,zAd (by omega) (by rw[p1];exact p2),bs,yE (by simp only[Je,Kt,J6,Jg];omega),bs,bs,cs,Lo];simp only[Kj,Js,He,r1,enR,zVC h,cs]) (by
  unfold zUn;simp only
  rw[xR,zK])
 rw[show((0:Nat):Int)=0 from rfl]at l1;simp only[Qu,He]at l1;rw[l1,bs];have l3:=zV (body:=zUp x) (r:=(tC x).map enR) (fun i=>(((Ji x.zA.length).map (r1 x)++(Ji i).flatMap (R2 x)).map enR,(i:Int))) x.zA.length (fun i hi=>by
  have t2:=(h.tl i hi).2.1;have i9:=zKf h i (by omega);unfold zUp;simp only
  rw[yY hi,zM,yR [] (by omega),bs];have l2:=zV (body:=zUo (((Ji x.zA.length).map (r1 x)++(Ji i).flatMap (R2 x)).map enR,(i:Int)) (x.zE.getD i [])) (r:=((Ji x.zA.length).map (r1 x)++(Ji (i+1)).flatMap (R2 x)).map enR)
   (fun j=>(((Ji x.zA.length).map (r1 x)++(Ji i).flatMap (R2 x)++(Ji j).map (r2 x i)).map enR,(j:Int))) (x.zE.getD i []).length (fun j hj=>by
    obtain⟨p1,p2⟩:=zA0 h.os ((h.tl i hi).2.2 j hj);have pE:=zF7 0 ((x.zE.getD i []).getD j []) (by rw[p1];exact fun i hi=>(p2 i hi).2);unfold zUo;simp only
    rw[yY hj,zM,yR [] hj,bs,zC (by omega) (by omega),bs,zC (by omega) (by omega),bs,zC (by omega) (by omega),bs,zAd (by omega) (by rw[p1];exact p2),bs,yE (by simp only[Je,J6,Jg];omega),bs,yE (by simp only[Je,J5,Kt,J6,Jg];omega),bs,zC (by omega) (by omega),bs,cs,Lo];have e1:(i:Int)+(j:Int)+2=((i+j+1:Nat):Int)+1:=by omega
    simp only[Kj,Js,He,r2,enR,enW,Jd,Lx,e1];rfl) (by
    unfold zUo;simp only
    rw[xR,zK,Lo,G5];simp only[Li,Qr,Ja,Jd,R2])
  rw[show((0:Nat):Int)=0 from rfl]at l2;simp only[Qu,He,Ja]at l2;rw[l2,bs,zC (by omega) (by omega),bs,cs]) (by
  unfold zUp;simp only
  rw[xR,zK];rfl)
 rw[show((0:Nat):Int)=0 from rfl]at l3;simp only[Qu,Qr,Ja]at l3;rw[l3,bs]
theorem zQs{q:Rl}(hq:q∈tC x):((∀w∈q.1,w<x.zA.length)∧q.1.length≤1000)∧(∀w∈q.2,w<x.zA.length)∧q.2.length≤1000:=by
 have h6:=h.os.1;simp only[tC,Jh,Jt,Kh,Gg,R2]at hq;rcases hq with⟨i,hi,rfl⟩|⟨i,hi,j,hj,rfl⟩
 ·obtain⟨p1,p2⟩:=zA0 h.os (h.tl i hi).1
  have pE:=zF7 0 (x.zR.getD i []) (by rw[p1];exact fun i hi=>(p2 i hi).2);have cB:=(h.os.2 i hi).pos;refine⟨⟨fun w hw=>?_,?_⟩,fun w hw=>zLR 0 _ (by omega) w hw,by simp only[r1];omega⟩
  ·have:=Jm hw;omega
  ·simp only[r1,J8];omega
 ·obtain⟨p1,p2⟩:=zA0 h.os ((h.tl i hi).2.2 j hj)
  have t2:=(h.tl i hi).2.1;have pE:=zF7 0 ((x.zE.getD i []).getD j []) (by rw[p1];exact fun i hi=>(p2 i hi).2);refine⟨⟨fun w hw=>?_,by simp[r2]⟩,fun w hw=>?_,by simp only[r2,J6];omega⟩
  ·simp only[r2,Jc,Jb1,or_false]at hw;omega
  ·simp only[r2,Jc]at hw
   rcases hw with rfl|hw
   ·exact hi
   ·exact zLR 0 _ (by omega) w hw
variable {m:zF}{D:Nat} (hm:MOk x.zA.length m D)
 include hm
end
end Go.Pl

namespace Go.Pl
open Go Go.Ab Go.Wk Go.Pc
theorem zFA{xs:List (List Int)}{i:Nat}(h:i<xs.length):(xs.take (i+1)).flatten=(xs.take i).flatten++xs.getD i []:=by rw[K0 h,Qm,J2,J3 h];simp
theorem zKg{xs:List (List Int)}(i:Nat):(xs.take i).flatten.length≤xs.flatten.length:=by
 have:xs.flatten=(xs.take i).flatten++(xs.drop i).flatten:=by rw[←Qm,Jb8]
 rw[this,J5];omega
theorem zQt{k:Nat}(hk:k≤1000000):zUs (k:Int)=iz []:=by
 unfold zUs;rw[iD (by omega),zK,zC (by decide) (by decide),bs,zC (by omega) (by omega),bs]
 by_cases h:(k:Int)-(0-0)> 0
 ·rw[iE h,zM]
  have e:tI ([]:List Int) ((k:Int)-(0-0)) 0=iz (J0 k 0):=by unfold tI;rw[if_pos (by simp;omega)];simp
  rw[e,bs];rfl
 ·rw[iD h,zK]
theorem jE{xs:List (List Int)}(hx:xs.length≤1000)(hf:xs.flatten.length≤1000000):f_s xs=iz xs.flatten:=by
 unfold f_s;have l1:=zV (body:=zUt xs) (r:=((xs.flatten.length:Nat):Int)) (fun i=>((((xs.take i).flatten.length:Nat):Int),(i:Int))) xs.length (fun i hi=>by
  have h1:=zFA hi;have h2:=zKg (xs:=xs) (i+1);have h3:=congrArg Jbl h1;rw[J5]at h3;unfold zUt;simp only
  rw[yY hi,zM,yR [] hi,bs,zC (by omega) (by omega),bs,iD (by omega),zK,zC (by omega) (by omega),bs,cs,h3]
  congr 3) (by
  unfold zUt;simp only
  rw[xR,zK,Lj])
 rw[show((0:Nat):Int)=0 from rfl]at l1;simp only[K5,Hn,Jg]at l1;rw[show((0:Nat):Int)=0 from rfl]at l1;rw[l1,bs,zQt hf,bs];have l2:=zV (body:=zUu xs) (r:=xs.flatten) (fun i=>((xs.take i).flatten,(i:Int))) xs.length (fun i hi=>by
  have h1:=zFA hi;have h2:=zKg (xs:=xs) (i+1);have h3:=congrArg Jbl h1;rw[J5]at h3;unfold zUu;simp only
  rw[yY hi,zM,yR [] hi,bs,yE (by omega),bs,zC (by omega) (by omega),bs,cs,h1]) (by
  unfold zUu;simp only
  rw[xR,zK,Lj])
 rw[show((0:Nat):Int)=0 from rfl]at l2;simp only[K5,Hn]at l2;rw[l2,bs]
theorem zLT{r:List Int}{a b:Nat}(hr:r.length≤1000)(ha:a≤1000)(hb:b≤1000):zUv r (a:Int) (b:Int)=iz (J0 a 0++(r++J0 b 0)):=by unfold zUv;rw[yX (by omega),bs,yX (by omega),bs,jE (by simp) (by simp;omega),bs];simp
end Go.Pl

namespace Go.Pl
open Go Go.Ab Go.Wk Go.Pc
section
variable {p:Int}
def tU(p:Int)(D:Nat)(r:List Int)(k:Int)(s:List Int):List Int:=mkv D fun j=>(at0 r j+k*at0 s j)%p
theorem zSG{D:Nat}{r s:List Int}{k:Int}:(tU p D r k s).length=D:=yA _ _
def zI2(p:Int)(D i:Nat)(r:List Int)(k:Int)(s:List Int):List Int:=mkv D fun j=>if j<i then(at0 r j+k*at0 s j)%p else at0 r j
theorem zJq{D:Nat}{r s:List Int}{k:Int}(hr:r.length=D):zI2 p D 0 r k s=r:=by
 conv=>rhs;rw[vY hr]
 exact zZ fun j _=>by rw[if_neg (by omega)]
theorem zJr{D:Nat}{r s:List Int}{k:Int}:zI2 p D D r k s=tU p D r k s:=zZ fun j hj=>by rw[if_pos hj]
theorem zLU{D i:Nat}{r s:List Int}{k a:Int}(ha:a=(at0 r i+k*at0 s i)%p):(zI2 p D i r k s).set i a=zI2 p D (i+1) r k s:=by
 simp only[zI2];rw[qU];refine zZ fun j _=>?_
 by_cases h:j=i
 ·subst h;rw[if_pos rfl,if_pos (by omega),ha]
 ·rw[if_neg h]
  by_cases h2:j<i
  ·rw[if_pos h2,if_pos (by omega)]
  ·rw[if_neg h2,if_neg (by omega)]
theorem zPu{D i:Nat}{r s:List Int}{k:Int}(hi:i<D):at0 (zI2 p D i r k s) i=at0 r i:=by rw[zI2,yH hi,if_neg (by omega)]
theorem zEF{D i:Nat}{r s:List Int}{k:Int}:(zI2 p D i r k s).length=D:=yA _ _
end
section
variable {p:Int} (hp:Prime p)
 include hp
theorem zLV{a:Int}(_h0:-1000≤a)(_h1:a≤1000):zKG a p=iz (a%p):=by
 have h7:=hp.pos;have e1:=Jba a (show 0<p by omega);have e2:=Jbb a (show 0<p by omega);have e3:(Jbz a p+p)%p=a%p:=by
  rw[Uk];have:=Jau a p
  conv=>rhs;rw[←this]
  rw[Ly]
 unfold zKG tT;rw[if_neg (by omega),bs,zC (by omega) (by omega),bs,if_neg (by omega),bs,Kz (by omega),e3]
theorem zLW{a:Int}(_h0:-1000≤a)(_h1:a≤1000):zU8 a p=iz (a%p):=by
 have h7:=hp.pos;have e1:=Jba a (show 0<p by omega);have e2:=Jbb a (show 0<p by omega);have e3:(Jbz a p+p)%p=a%p:=by
  rw[Uk];have:=Jau a p
  conv=>rhs;rw[←this]
  rw[Ly]
 unfold zU8 tT;rw[if_neg (by omega),bs]
 by_cases h:Jbz a p<0
 ·rw[iE h,zM,zC (by omega) (by omega),bs,←e3,Kb (by omega) (by omega)]
 ·rw[iD h,zK,←e3,Uk,Kb (by omega) (by omega)]
theorem zAE{D:Nat}{r s:List Int}{k:Int}:Row p D (tU p D r k s):=by have h7:=hp.pos;refine⟨yA _ _,fun i hi=>?_⟩;have e:at0 (tU p D r k s) i=(at0 r i+k*at0 s i)%p:=yH hi;have e1:=L5 (at0 r i+k*at0 s i) (show p≠0 by omega);have e2:=Kl (at0 r i+k*at0 s i) (show 0<p by omega);rw[e];omega
theorem zBR{k b:Int}(hk:-7≤k∧k≤7)(hb:0≤b∧b≤p-1):-49≤k*b∧k*b≤49:=by
 have h7:=hp.pos;rcases Int.le_total 0 k with h|h
 ·have h1:=Gy h hb.1
  have h2:=Lu hk.2 (show b≤7 by omega) hb.1 (by omega);omega
 ·have h1:=Gy (show 0≤ -k by omega) hb.1
  have h2:=Lu (show -k≤7 by omega) (show b≤7 by omega) hb.1 (by omega);rw[Int.neg_mul]at h1 h2;omega
theorem zB1{D:Nat}{r s:List Int}{k:Int}(hr:Row p D r)(hs:Row p D s)(hk:-7≤k∧k≤7)(hD:D≤1000000):f_x r s k p=iz (tU p D r k s):=by
 have h7:=hp.pos;have:=zV (body:=zM9 r s k p) (r:=tU p D r k s) (fun i=>(zI2 p D i r k s,(i:Int))) D (fun i hi=>by
  have a1:=hr.2 i hi;have a2:=hs.2 i hi;have a3:=zBR hp hk a2;unfold zM9;simp only
  rw[hr.1,yY hi,zM,yQ (by rw[zEF];exact hi),bs,yQ (by rw[hs.1];exact hi),bs,zC (by omega) (by omega),bs,zPu hi,zC (by omega) (by omega),bs,zLV hp (by omega) (by omega),bs,bs,zC (by omega) (by omega),bs,cs,J9,zLU rfl]) (by
  unfold zM9;simp only
  rw[hr.1,xR,zK,zJr])
 rw[show((0:Nat):Int)=0 from rfl,zJq hr.1]at this;unfold f_x;rw[this,bs]
theorem tW{D:Nat}{r s:List Int}{k:Int}(hr:Row p D r)(hs:Row p D s)(hk:-7≤k∧k≤7)(hD:D≤1000000):f_A p r k s=iz (tU p D r k s):=by
 have h7:=hp.pos;have:=zV (body:=zU9 p k s) (r:=tU p D r k s) (fun i=>(zI2 p D i r k s,(i:Int))) D (fun i hi=>by
  have a1:=hr.2 i hi;have a2:=hs.2 i hi;have a3:=zBR hp hk a2;unfold zU9;simp only
  rw[zEF,yY hi,zM,hs.1,yY hi,zM,yQ (by rw[zEF];exact hi),bs,yQ (by rw[hs.1];exact hi),bs,zC (by omega) (by omega),bs,zPu hi,zC (by omega) (by omega),bs,zLW hp (by omega) (by omega),bs,bs,zC (by omega) (by omega),bs,cs,J9,zLU rfl]) (by
  unfold zU9;simp only
  rw[zEF,xR,zK,zJr])
 rw[show((0:Nat):Int)=0 from rfl,zJq hr.1]at this;unfold f_A;rw[tM (by rw[hr.1];omega),bs,this,bs]
end
theorem zEa{p:Int}{D:Nat}{r s:List Int}:tU p D r (p-1) s=tU p D r (-1) s:=zZ fun j _=>by rw[show at0 r j+(p-1)*at0 s j=at0 r j+ -1*at0 s j+p*at0 s j from by rw[Qz];omega,Ly]
end Go.Pl

namespace Go.Pl
open Go Go.Ab Go.Wk Go.Pc
def VOk(n:Nat)(p:Int)(D:Nat)(vals:Mx):Prop:=vals.length=n∧ ∀i,i<n→Row p D (vals.getD i [])
def stp(m:zF)(D:Nat)(vals:Mx)(v:List Int)(w:Nat):List Int:=tU m.Prime D (wD m.Prime D v (m.zP.getD w [])) 1 (vals.getD w [])
def ev(m:zF)(D:Nat)(vals:Mx)(v:List Int)(ws:List Nat):List Int:=ws.foldl (stp m D vals) v
theorem zJs{m:zF}{D:Nat}{vals:Mx}{v:List Int}{a b:List Nat}:ev m D vals v (a++b)=ev m D vals (ev m D vals v a) b:=by simp[ev,Ub]
theorem zNA{m:zF}{D:Nat}{vals:Mx}{w:Nat}:∀(k:Nat)(v:List Int),ev m D vals v (J0 k w)=iter k (fun v=>stp m D vals v w) v
 |0,_=>rfl
 |k+1,v=>by rw[Jq];show ev m D vals (stp m D vals v w) (J0 k w)=_;rw[zNA k];rfl
abbrev z0(D:Nat):List Int:=J0 D 0
theorem zHI{p:Int}{D:Nat}(hp:0<p):Row p D (z0 D):=by
 refine⟨by simp,fun i hi=>?_⟩;have:at0 (z0 D) i=0:=by simp[z0,at0,J2,hi]
 rw[this];omega
theorem vA{p:Int}{D:Nat}{r:List Int}{B:Mx}(hp:0<p):Row p D (wD p D r B):=by refine⟨yA _ _,fun i hi=>?_⟩;have e1:=L5 (S D (fun l=>at0 r l*ent B l i)) (show p≠0 by omega);have e2:=Kl (S D (fun l=>at0 r l*ent B l i)) hp;rw[wD,yH hi];omega
section
variable {n D:Nat}{m:zF} (hm:MOk n m D) (hn:n≤9) {vals:Mx} (hv:VOk n m.Prime D vals)
 include hm hn hv
theorem zBS{v:List Int}{w:Nat}:Row m.Prime D (stp m D vals v w):=by have _:=hn;have _:=hv;exact zAE hm.p
theorem zEb{v:List Int}(h:Row m.Prime D v):∀ws,Row m.Prime D (ev m D vals v ws):=by
 intro ws
 induction ws generalizing v with
 |nil=>exact h
 |cons w ws ih=>exact ih (zBS hm hn hv)
theorem zB2{v:List Int}{w:Nat}(h:Row m.Prime D v)(hw:w<n):zMI m vals v (w:Int)=iz (stp m D vals v w):=by have _:=hn;have h7:=hm.p.pos;have h3:=hm.d3;unfold zMI;rw[yR [] (by rw[hm.len];exact hw),bs,hm.d,zHG hm.p (by omega) h (hm.mat w hw),bs,yR [] (by rw[hv.1];exact hw),bs,tW hm.p (vA (by omega)) (hv.2 w hw) (by omega) (by omega),bs];rfl
theorem zGh{v x:List Int}(h:Row m.Prime D v)(hl:x.length=n)(hx:∀i,i<n→0≤at0 x i∧at0 x i≤6):f_N m vals v x=iz (ev m D vals v (nw 0 x)):=by
 have:=zV (body:=zUG m vals x) (r:=ev m D vals v (nw 0 x)) (fun i=>(ev m D vals v (nw 0 (x.take i)),(i:Int))) n (fun i hi=>by
  have aW:=hx i hi;unfold zUG;simp only
  rw[hl,yY hi,zM];rw[uZ (S:=Row m.Prime D) (body:=zUF m vals x (ev m D vals v (nw 0 (x.take i)),(i:Int))) (fun v=>v) (fun v=>stp m D vals v i) (at0 x i) aW.1 (fun v _=>zBS hm hn hv) (fun u q hu hq=>by
   unfold zUF;simp only
   rw[yQ (by omega),bs,iE hq,zM,zB2 hm hn hv hu hi,bs,zC (by omega) (by omega),bs,cs]) (fun u hu=>by
   unfold zUF;simp only
   rw[yQ (by omega),bs,iD (by omega),zK]) (zEb hm hn hv h _),bs,zC (by omega) (by omega),bs,cs]
  rw[zPt (by omega),zJs,zNA]) (by
  unfold zUG;simp only
  rw[hl,xR,zK,Jr (by omega)])
 rw[show((0:Nat):Int)=0 from rfl,K5]at this;simp only[nw,ev,Jab]at this;unfold f_N;rw[this,bs];rfl
theorem zEG{ws:List Nat}(hw:∀w∈ws,w<n)(hl:ws.length≤1000):zUH m vals (enW ws)=iz (ev m D vals (z0 D) ws):=by
 have h7:=hm.p.pos;have h3:=hm.d3;unfold zUH;rw[hm.d,yX (by omega),bs];have hz:=zHI (p:=m.Prime) (D:=D) (by omega);have bT:(enW ws).length=ws.length:=by simp only[enW,Je]
 have:=zV (body:=zMJ m vals (enW ws)) (r:=ev m D vals (z0 D) ws) (fun i=>(ev m D vals (z0 D) (ws.take i),(i:Int))) ws.length (fun i hi=>by
  have mH:=hw ws[i] (Ka hi);have hr:=zEb hm hn hv hz (ws.take i);unfold zMJ;simp only
  rw[bT,yY hi,zM,vP,K4,J3 hi];simp only[Ho];rw[bs,zC (by omega) (by omega),bs,show((ws[i]:Nat):Int)+1-1=((ws[i]:Nat):Int)from by omega,zDA hm hn mH,bs,zB0 hm.p (by omega) hr (hm.mat _ mH) rfl,bs,bs,yR [] (by rw[hv.1];exact mH),bs,zB1 hm.p (vA (by omega)) (hv.2 _ mH) (by omega) (by omega),bs,zC (by omega) (by omega),bs,cs,K0 hi,zJs];rfl) (by
  unfold zMJ;simp only
  rw[bT,xR,zK,Jr (by omega)])
 rw[show((0:Nat):Int)=0 from rfl,K5]at this;simp only[ev,Jab]at this;rw[this,bs];rfl
end
section
variable {x:SPr} (h:Pres x) {m:zF}{D:Nat} (hm:MOk x.zA.length m D) {vals:Mx} (hv:VOk x.zA.length m.Prime D vals)
 include h hm hv
abbrev dfc(m:zF)(D:Nat)(vals:Mx)(q:Rl):List Int:=tU m.Prime D (ev m D vals (z0 D) q.1) (-1) (ev m D vals (z0 D) q.2)
theorem zKh:(tC x).length≤100:=by have _:=hv;have _:=hm;have h6:=h.os.1;have i9:=zKf h x.zA.length (Jl _);simp only[tC,J5,Je,Kt];omega
theorem zKi:zWr x m vals=iz ((tC x).map (dfc m D vals)):=by
 have h6:=h.os.1;have h7:=hm.p.pos;have h3:=hm.d3;have cZ:=zKh h hm hv;have hz:=zHI (p:=m.Prime) (D:=D) (by omega);unfold zWr;rw[zDZ h,bs];have:=zV (body:=zMK m vals ((tC x).map enR)) (r:=(tC x).map (dfc m D vals)) (fun i=>(((tC x).map (dfc m D vals)).take i,(i:Int))) (tC x).length (fun i hi=>by
  have gu:(tC x)[i]∈tC x:=Ka hi;obtain⟨⟨g1,g2⟩,g3,g4⟩:=zQs h gu;unfold zMK;simp only
  rw[Je,yY hi,zM,vP,K4,J3 hi];simp only[Ho];rw[bs,zEG hm h6 hv g1 g2,bs,zEG hm h6 hv g3 g4,bs,zB1 hm.p (zEb hm h6 hv hz _) (zEb hm h6 hv hz _) (by omega) (by omega),bs,yE (by simp;omega),bs,zC (by omega) (by omega),bs,cs,K0 (by simpa using hi)];simp only[Qq]) (by
  unfold zMK;simp only
  rw[Je,xR,zK,Jr (by simp)])
 rw[show((0:Nat):Int)=0 from rfl,K5]at this;rw[this,bs]
end
end Go.Pl

namespace Go.Pl
open Go Go.Ab Go.Wk Go.Pc
theorem zLX{a b:Int}(h:a=b):(a==b)=iB:=by simp[h]
theorem zLY{a b:Int}(h:a≠b):(a==b)=iC:=by simp[h]
end Go.Pl

namespace Go.Pl
open Go Go.Ab Go.Wk Go.Pc
theorem IsB.both{o o':Option Bool}{P:Prop}(h:IsB o P)(h':IsB o' P):(o=iz iB∧o'=iz iB∧P)∨(o=iz iC∧o'=iz iC∧ ¬P):=by
 rcases h with⟨h1,h2⟩|⟨h1,h2⟩<;>rcases h' with⟨h3,h4⟩|⟨h3,h4⟩
 ·exact .inl ⟨h1,h3,h2⟩
 ·exact absurd h2 h4
 ·exact absurd h4 h2
 ·exact .inr ⟨h1,h3,h2⟩
end Go.Pl

namespace Go.Pl
open Go Go.Ab Go.Wk Go.Pc
def Sp(p:Int)(n:Nat)(R:Mx)(v:List Int):Prop:=∃c:Nat→Int,∀j,j<n→(S R.length fun i=>c i*ent R i j)%p=at0 v j%p
section
variable {p:Int}{n:Nat}{R R':Mx}{u v w:List Int}
theorem qM{i:Nat}(hi:i<R.length):Sp p n R (R.getD i []):=by refine⟨fun l=>if l=i then 1 else 0,fun j _=>?_⟩;rw[zAj (k:=i) hi (fun l _ hl=>by simp[hl])];simp
theorem zBd{k:Int}(hv:Sp p n R v)(hw:Sp p n R w)(h:∀j,j<n→at0 u j%p=(at0 v j+k*at0 w j)%p):Sp p n R u:=by
 obtain⟨c,hc⟩:=hv;obtain⟨d,hd⟩:=hw;refine⟨fun i=>c i+k*d i,fun j hj=>?_⟩;have e:(S R.length fun i=>(c i+k*d i)*ent R i j)=(S R.length fun i=>c i*ent R i j)+k*(S R.length fun i=>d i*ent R i j):=by rw[←zCL,←zCK];exact xQ fun i _=>by rw[Ja2,H8]
 rw[e,h j hj,Kf,hc j hj,Jv,hd j hj,←Jv,←Kf]
theorem zEH(h:∀j,j<n→at0 u j%p=0):Sp p n R u:=by refine⟨fun _=>0,fun j hj=>?_⟩;rw[h j hj,xQ (g:=fun _=>0) (fun i _=>by simp),qL];simp
theorem kY(h:∀i,i<R.length→Sp p n R' (R.getD i []))(hv:Sp p n R v):Sp p n R' v:=by
 obtain⟨c,hc⟩:=hv;have key:∀m,m≤R.length→ ∃d:Nat→Int,∀j,j<n→(S R'.length fun i=>d i*ent R' i j)%p=(S m fun i=>c i*ent R i j)%p:=by
  intro m
  induction m with
  |zero=>intro _;exact⟨fun _=>0,fun j _=>by rw[xQ (g:=fun _=>0) (fun i _=>by simp),qL];rfl⟩
  |succ m ih=>
   intro hm;obtain⟨d,hd⟩:=ih (by omega);obtain⟨e,he⟩:=h m (by omega);refine⟨fun i=>d i+c m*e i,fun j hj=>?_⟩;have e1:(S R'.length fun i=>(d i+c m*e i)*ent R' i j)=(S R'.length fun i=>d i*ent R' i j)+c m*(S R'.length fun i=>e i*ent R' i j):=by rw[←zCL,←zCK];exact xQ fun i _=>by rw[Ja2,H8]
   rw[e1,Kf,hd j hj,Jv,he j hj,←Jv,←Kf];rfl
 obtain⟨d,hd⟩:=key R.length (Jl _);exact⟨d,fun j hj=>by rw[hd j hj,hc j hj]⟩
end
def jM(p:Int)(n:Nat)(R R':Mx):Prop:=(∀i,i<R.length→Sp p n R' (R.getD i []))∧ ∀i,i<R'.length→Sp p n R (R'.getD i [])
theorem jM.refl{p:Int}{n:Nat}{R:Mx}:jM p n R R:=⟨fun _ h=>qM h,fun _ h=>qM h⟩
theorem jM.symm{p:Int}{n:Nat}{R R':Mx}(h:jM p n R R'):jM p n R' R:=⟨h.2,h.1⟩
theorem jM.trans{p:Int}{n:Nat}{R R' R2:Mx}(h:jM p n R R')(h':jM p n R' R2):jM p n R R2:=⟨fun i hi=>kY h'.1 (h.1 i hi),fun i hi=>kY h.2 (h'.2 i hi)⟩
theorem jM.iff{p:Int}{n:Nat}{R R':Mx}{v:List Int}(h:jM p n R R'):Sp p n R v↔Sp p n R' v:=⟨fun g=>kY h.1 g,fun g=>kY h.2 g⟩
structure Red (p:Int) (n:Nat) (R:Mx) (pv:Nat→Nat):Prop where
 row:∀i,i<R.length→Row p n (R.getD i [])
 lt:∀i,i<R.length→pv i<n
 one:∀i,i<R.length→ent R i (pv i)=1
 low:∀i,i<R.length→ ∀j,j<pv i→ent R i j=0
 off:∀i k,i<R.length→k<R.length→k≠i→ent R k (pv i)=0
 mono:∀i j,i<j→j<R.length→pv i<pv j
section
variable {p:Int} (hp:1<p) {n:Nat}{R R':Mx}{pv pv':Nat→Nat}{v:List Int}
theorem Red.coef(h:Red p n R pv){c:Nat→Int}(hc:∀j,j<n→(S R.length fun i=>c i*ent R i j)%p=at0 v j%p){k:Nat}(hk:k<R.length):c k%p=at0 v (pv k)%p:=by rw[←hc (pv k) (h.lt k hk),zAj (k:=k) hk (fun i hi gf=>by rw[h.off k i hk hi gf];simp),h.one k hk];simp
theorem Red.expand(h:Red p n R pv)(hv:Sp p n R v):∀j,j<n→at0 v j%p=(S R.length fun i=>at0 v (pv i)*ent R i j)%p:=by obtain⟨c,hc⟩:=hv;intro j hj;rw[←hc j hj];exact kX fun i hi=>by rw[Jv,h.coef hc hi,←Jv]
theorem Red.lead(h:Red p n R pv)(hv:Sp p n R v)(gf:∃j,j<n∧at0 v j%p≠0):∃i,i<R.length∧(∀j,j<pv i→at0 v j%p=0)∧at0 v (pv i)%p≠0:=by
 have hx:=h.expand hv;have h1:∃i,i<R.length∧at0 v (pv i)%p≠0:=by
  refine Classical.byContradiction fun hn=>?_
  obtain⟨j,hj,pP⟩:=gf;refine pP ?_;rw[hx j hj,kX (g:=fun _=>0) (fun i hi=>by
   have:at0 v (pv i)%p=0:=Classical.byContradiction fun h0=>hn ⟨i,hi,h0⟩
   rw[Jv,this];simp),qL];rfl
 obtain⟨i,⟨hi,eQ⟩,eH⟩:=zD2 h1;refine⟨i,hi,fun j hj=>?_,eQ⟩;have bR:j<n:=Nat.lt_trans hj (h.lt i hi);rw[hx j bR,kX (g:=fun _=>0) (fun k hk=>by
  rcases Jj k i with hki|hki
  ·have:at0 v (pv k)%p=0:=Classical.byContradiction fun h0=>eH k hki ⟨hk,h0⟩
   rw[Jv,this];simp
  ·have h2:pv i≤pv k:=by
    rcases Jj i k with h3|h3
    ·exact Jco (h.mono i k h3 hk)
    ·rw[show i=k from by omega];exact Jl _
   rw[h.low k hk j (by omega)];simp),qL];rfl
 include hp
theorem Red.row_lead(h:Red p n R pv){i:Nat}(hi:i<R.length):(∃j,j<n∧at0 (R.getD i []) j%p≠0)∧(∀j,j<pv i→at0 (R.getD i []) j%p=0)∧at0 (R.getD i []) (pv i)%p≠0:=by
 have h1:at0 (R.getD i []) (pv i)%p≠0:=by have:=h.one i hi;simp only[ent]at this;rw[this,Kb (by omega) hp];omega
 refine⟨⟨pv i,h.lt i hi,h1⟩,fun j hj=>?_,h1⟩;have:=h.low i hi j hj;simp only[ent]at this;rw[this];rfl
theorem Red.piv_in(h:Red p n R pv)(h':Red p n R' pv')(hs:∀i,i<R.length→Sp p n R' (R.getD i [])){i:Nat}(hi:i<R.length):∃k,k<R'.length∧pv' k=pv i:=by
 obtain⟨g1,g2,g3⟩:=h.row_lead hp hi;obtain⟨k,hk,g4,g5⟩:=h'.lead (hs i hi) g1;refine⟨k,hk,?_⟩;rcases Hw (pv' k) (pv i)with h1|h1|h1
 ·exact absurd (g2 _ h1) g5
 ·exact h1
 ·exact absurd (g4 _ h1) g3
theorem Red.piv_eq(h:Red p n R pv)(h':Red p n R' pv')(hs:jM p n R R'):∀i,(i<R.length↔i<R'.length)∧(i<R.length→pv i=pv' i):=by
 intro i
 induction i using Nat.strongRecOn with
 |_ i ih=>
  have a:i<R.length→i<R'.length∧pv' i≤pv i:=fun hi=>by
   obtain⟨k,hk,e⟩:=h.piv_in hp h' hs.1 hi;have hki:i≤k:=by
    refine Classical.byContradiction fun hn=>?_
    have h1:=(ih k (by omega)).2 (by omega);have h2:=h.mono k i (by omega) hi;omega
   refine⟨by omega,?_⟩;rcases Jj i k with h3|h3
   ·have:=h'.mono i k h3 hk;omega
   ·have aF:i=k:=by omega
    subst aF;omega
  have b:i<R'.length→i<R.length∧pv i≤pv' i:=fun hi=>by
   obtain⟨k,hk,e⟩:=h'.piv_in hp h hs.2 hi;have hki:i≤k:=by
    refine Classical.byContradiction fun hn=>?_
    have h1:=(ih k (by omega)).2 hk;have h2:=h'.mono k i (by omega) hi;omega
   refine⟨by omega,?_⟩;rcases Jj i k with h3|h3
   ·have:=h.mono i k h3 hk;omega
   ·have aF:i=k:=by omega
    subst aF;omega
  exact⟨⟨fun hi=>(a hi).1,fun hi=>(b hi).1⟩,fun hi=>by have:=(a hi).2;have:=(b (a hi).1).2;omega⟩
theorem Red.unique(h:Red p n R pv)(h':Red p n R' pv')(hs:jM p n R R'):R=R':=by
 have p5:=h.piv_eq hp h' hs;have hl:R.length=R'.length:=by
  rcases Hw R.length R'.length with g|g|g
  ·have:=(p5 R.length).1.2 g;omega
  ·exact g
  ·have:=(p5 R'.length).1.1 g;omega
 refine zHE (D:=R.length) rfl hl.symm fun i hi=>?_
 have cD:i<R'.length:=by omega
 have r1:=h.row i hi;have r2:=h'.row i cD;rw[vY r1.1,vY r2.1];refine zZ fun j hj=>?_
 have hx:=h'.expand (hs.1 i hi) j hj;rw[xQ (g:=fun k=>(if k=i then 1 else 0)*ent R' k j) (fun k hk=>by
  congr 1
  have e:=(p5 k).2 (by omega)
  by_cases hki:k=i
  ·subst hki;rw[if_pos rfl,←e];exact h.one k hi
  ·rw[if_neg hki,←e];exact h.off k i (by omega) hi (Ne.symm hki)),zAj (k:=i) cD (fun k _ hk=>by simp[hk])]at hx
 simp only[if_true,Jbv,ent]at hx;have a1:=r1.2 j hj;have a2:=r2.2 j hj;rw[Kb a1.1 (by omega),Kb a2.1 (by omega)]at hx;exact hx
end
end Go.Pl

namespace Go.Pl
open Go Go.Ab Go.Wk Go.Pc
def mkR(m:Nat)(F:Nat→List Int):Mx:=(Ji m).map F
theorem sP{m:Nat}{F:Nat→List Int}:(mkR m F).length=m:=by simp[mkR]
theorem kO{m:Nat}{F:Nat→List Int}{i:Nat}(h:i<m):(mkR m F).getD i []=F i:=by simp[mkR,J2,h]
theorem zKj{m:Nat}{F:Nat→List Int}{i:Nat}(h:i<m):ixO (mkR m F) (i:Int)=iz (F i):=by rw[yR [] (by rw[sP];exact h),kO h]
theorem qE{m:Nat}{F G:Nat→List Int}(h:∀i,i<m→F i=G i):mkR m F=mkR m G:=by simp only[mkR];exact Qk fun i hi=>h i (Kh.1 hi)
theorem zYm{R:Mx}{m:Nat}(h:R.length=m):R=mkR m (fun i=>R.getD i []):=zHE (D:=m) h sP fun i hi=>by rw[kO hi]
theorem zG0{m:Nat}{F:Nat→List Int}{i:Nat}{a:List Int}:(mkR m F).set i a=mkR m (fun k=>if k=i then a else F k):=by
 apply Kr;intro k
 by_cases hk:k<m
 ·by_cases h:i=k
  ·subst h;simp[mkR,hk]
  ·rw[Jaa h];simp[mkR,hk,Ne.symm h]
 ·rw[Jp (by simp[mkR];omega),Jp (by simp[mkR];omega)]
theorem zEI{m:Nat}{F:Nat→List Int}{i j:Nat}(h:i<m):ent (mkR m F) i j=at0 (F i) j:=by simp only[ent,kO h]
theorem zSH{s:Nat→Int×Int×Int×Int}(n:Nat){r:Int×Int}(h:∀i,i<n→zQX (s i)=iz (.inl (s (i+1))))(he:zQX (s n)=iz (.inr r)){p q:Int}(hq:zKG r.2 p=iz q)(h1:r.1=1)(hs:s 0=(p,(s 0).2.1,0,1)):
  f_T (s 0).2.1 p=iz (q,iB):=by
 unfold f_T;rw[←hs,zV s n h he,bs,hq,bs,h1];rfl
def zSI:List (Int×Int×Int×Int)→Nat→Int×Int×Int×Int:=fun l i=>l.getD i (0,0,0,0)
theorem tP(l:List (Int×Int×Int×Int))(n:Nat){r:Int×Int}(h:∀i,i<n→zQX (zSI l i)=iz (.inl (zSI l (i+1))))(he:zQX (zSI l n)=iz (.inr r)){p q x:Int}(hq:zKG r.2 p=iz q)(h1:r.1=1)(hs:zSI l 0=(p,x,0,1)):
  f_T x p=iz (q,iB):=by
 have:=zSH (s:=zSI l) n h he hq h1 (by rw[hs]);rw[hs]at this;exact this
theorem lt1{P:Nat→Prop}(h0:P 0):∀i,i<1→P i:=fun i hi=>by rw[show i=0 from by omega];exact h0
theorem lt2{P:Nat→Prop}(h0:P 0)(h1:P 1):∀i,i<2→P i:=fun i hi=>by match i,hi with|0,_=>exact h0|1,_=>exact h1
theorem lt3{P:Nat→Prop}(h0:P 0)(h1:P 1)(h2:P 2):∀i,i<3→P i:=fun i hi=>by match i,hi with|0,_=>exact h0|1,_=>exact h1|2,_=>exact h2
theorem zEJ{p x:Int}(hp:Prime p)(h0:1≤x)(h1:x≤p-1):∃r,f_T x p=iz (r,iB)∧0≤r∧r≤p-1∧(x*r)%p=1:=by
 have c:(p=2∧x=1)∨(p=3∧(x=1∨x=2))∨(p=5∧(x=1∨x=2∨x=3∨x=4))∨(p=7∧(x=1∨x=2∨x=3∨x=4∨x=5∨x=6)):=by unfold Prime at hp;omega
 rcases c with⟨rfl,rfl⟩|⟨rfl,rfl|rfl⟩|⟨rfl,rfl|rfl|rfl|rfl⟩|⟨rfl,rfl|rfl|rfl|rfl|rfl|rfl⟩
 ·exact⟨1,tP [(2,1,0,1),(1,0,1,-2)] 1 (lt1 (by decide+kernel)) (r:=(1,1)) (by decide+kernel) (by decide+kernel) rfl rfl,by decide,by decide,by decide⟩
 ·exact⟨1,tP [(3,1,0,1),(1,0,1,-3)] 1 (lt1 (by decide+kernel)) (r:=(1,1)) (by decide+kernel) (by decide+kernel) rfl rfl,by decide,by decide,by decide⟩
 ·exact⟨2,tP [(3,2,0,1),(2,1,1,-1),(1,0,-1,3)] 2 (lt2 (by decide+kernel) (by decide+kernel)) (r:=(1,-1)) (by decide+kernel) (by decide+kernel) rfl rfl,by decide,by decide,by decide⟩
 ·exact⟨1,tP [(5,1,0,1),(1,0,1,-5)] 1 (lt1 (by decide+kernel)) (r:=(1,1)) (by decide+kernel) (by decide+kernel) rfl rfl,by decide,by decide,by decide⟩
 ·exact⟨3,tP [(5,2,0,1),(2,1,1,-2),(1,0,-2,5)] 2 (lt2 (by decide+kernel) (by decide+kernel)) (r:=(1,-2)) (by decide+kernel) (by decide+kernel) rfl rfl,by decide,by decide,by decide⟩
 ·exact⟨2,tP [(5,3,0,1),(3,2,1,-1),(2,1,-1,2),(1,0,2,-5)] 3 (lt3 (by decide+kernel) (by decide+kernel) (by decide+kernel)) (r:=(1,2)) (by decide+kernel) (by decide+kernel) rfl rfl,by decide,by decide,by decide⟩
 ·exact⟨4,tP [(5,4,0,1),(4,1,1,-1),(1,0,-1,5)] 2 (lt2 (by decide+kernel) (by decide+kernel)) (r:=(1,-1)) (by decide+kernel) (by decide+kernel) rfl rfl,by decide,by decide,by decide⟩
 ·exact⟨1,tP [(7,1,0,1),(1,0,1,-7)] 1 (lt1 (by decide+kernel)) (r:=(1,1)) (by decide+kernel) (by decide+kernel) rfl rfl,by decide,by decide,by decide⟩
 ·exact⟨4,tP [(7,2,0,1),(2,1,1,-3),(1,0,-3,7)] 2 (lt2 (by decide+kernel) (by decide+kernel)) (r:=(1,-3)) (by decide+kernel) (by decide+kernel) rfl rfl,by decide,by decide,by decide⟩
 ·exact⟨5,tP [(7,3,0,1),(3,1,1,-2),(1,0,-2,7)] 2 (lt2 (by decide+kernel) (by decide+kernel)) (r:=(1,-2)) (by decide+kernel) (by decide+kernel) rfl rfl,by decide,by decide,by decide⟩
 ·exact⟨2,tP [(7,4,0,1),(4,3,1,-1),(3,1,-1,2),(1,0,2,-7)] 3 (lt3 (by decide+kernel) (by decide+kernel) (by decide+kernel)) (r:=(1,2)) (by decide+kernel) (by decide+kernel) rfl rfl,by decide,by decide,by decide⟩
 ·exact⟨3,tP [(7,5,0,1),(5,2,1,-1),(2,1,-1,3),(1,0,3,-7)] 3 (lt3 (by decide+kernel) (by decide+kernel) (by decide+kernel)) (r:=(1,3)) (by decide+kernel) (by decide+kernel) rfl rfl,by decide,by decide,by decide⟩
 ·exact⟨6,tP [(7,6,0,1),(6,1,1,-1),(1,0,-1,7)] 2 (lt2 (by decide+kernel) (by decide+kernel)) (r:=(1,-1)) (by decide+kernel) (by decide+kernel) rfl rfl,by decide,by decide,by decide⟩
end Go.Pl

namespace Go.Pl
open Go Go.Ab Go.Wk Go.Pc
structure zQu (p:Int) (n m:Nat) (rows:Mx) (c:Nat) (M:Mx) (d:Nat) (pv:Nat→Nat):Prop where
 len:M.length=m
 row:∀i,i<m→Row p n (M.getD i [])
 dm:d≤m
 lt:∀i,i<d→pv i<c
 one:∀i,i<d→ent M i (pv i)=1
 low:∀i,i<d→ ∀j,j<pv i→ent M i j=0
 off:∀i k,i<d→k<m→k≠i→ent M k (pv i)=0
 mono:∀i j,i<j→j<d→pv i<pv j
 zero:∀k,d≤k→k<m→ ∀j,j<c→ent M k j=0
 sp:jM p n M rows
theorem zBT{p:Int}{n m:Nat}{F:Nat→List Int}{i:Nat}(h:i<m):Sp p n (mkR m F) (F i):=by have:=qM (p:=p) (n:=n) (R:=mkR m F) (i:=i) (by rw[sP];exact h);rw[kO h]at this;exact this
theorem zSJ(a e r p:Int):a%p=((a+(0-e)*r)%p+e*r)%p:=by rw[Kf,K9,←Kf,show a+(0-e)*r+e*r=a from by rw[Qz,U6];omega]
section
variable {p:Int} (hp:Prime p) {n m:Nat}{rows:Mx}{c:Nat}{M:Mx}{d:Nat}{pv:Nat→Nat} (h:zQu p n m rows c M d pv) (hc:c<n) (hd:d<m)
 include hp h hc hd
theorem zQu.pivot{t:Nat}(ht:d≤t)(tw:t<m)(gf:ent M t c≠0){q:Int}(hq:(ent M t c*q)%p=1):
  zQu p n m rows (c+1) (mkR m fun i=>if i=d then mkv n fun j=>(ent M t j*q)%p else tU p n (if i=t then M.getD d []else M.getD i []) (0-at0 (if i=t then M.getD d []else M.getD i []) c) (mkv n fun j=>(ent M t j*q)%p)) (d+1) (fun i=>if i=d then c else pv i):=by
 have h7:=hp.pos;have pr:∀j,j<n→at0 (mkv n fun j=>(ent M t j*q)%p) j=(ent M t j*q)%p:=fun j hj=>yH hj
 have p0:∀j,j<c→(ent M t j*q)%p=0:=fun j hj=>by rw[h.zero t ht tw j hj];simp
 have prow:Row p n (mkv n fun j=>(ent M t j*q)%p):=⟨yA _ _,fun j hj=>by have e1:=L5 (ent M t j*q) (show p≠0 by omega);have e2:=Kl (ent M t j*q) (show 0<p by omega);rw[pr j hj];omega⟩
 have hG:∀i,i<m→i≠d→Row p n (if i=t then M.getD d []else M.getD i []):=fun i hi _=>by
  split
  ·exact h.row d hd
  ·exact h.row i hi
 have eo:∀i j,i<m→i≠d→j<n→ent (mkR m fun i=>if i=d then mkv n fun j=>(ent M t j*q)%p else tU p n (if i=t then M.getD d []else M.getD i []) (0-at0 (if i=t then M.getD d []else M.getD i []) c) (mkv n fun j=>(ent M t j*q)%p)) i j=(at0 (if i=t then M.getD d []else M.getD i []) j+(0-at0 (if i=t then M.getD d []else M.getD i []) c)*((ent M t j*q)%p))%p:=fun i j hi eG hj=>by rw[zEI hi,if_neg eG,tU,yH hj,pr j hj]
 have el:∀i j,i<m→i≠d→j<c→ent (mkR m fun i=>if i=d then mkv n fun j=>(ent M t j*q)%p else tU p n (if i=t then M.getD d []else M.getD i []) (0-at0 (if i=t then M.getD d []else M.getD i []) c) (mkv n fun j=>(ent M t j*q)%p)) i j=at0 (if i=t then M.getD d []else M.getD i []) j:=fun i j hi eG hj=>by rw[eo i j hi eG (by omega),p0 j hj,L4,H5];have:=(hG i hi eG).2 j (by omega);exact Kb this.1 (by omega)
 have ed:∀j,j<n→ent (mkR m fun i=>if i=d then mkv n fun j=>(ent M t j*q)%p else tU p n (if i=t then M.getD d []else M.getD i []) (0-at0 (if i=t then M.getD d []else M.getD i []) c) (mkv n fun j=>(ent M t j*q)%p)) d j=(ent M t j*q)%p:=fun j hj=>by rw[zEI hd,if_pos rfl,pr j hj]
 have ec:∀i,i<m→i≠d→ent (mkR m fun i=>if i=d then mkv n fun j=>(ent M t j*q)%p else tU p n (if i=t then M.getD d []else M.getD i []) (0-at0 (if i=t then M.getD d []else M.getD i []) c) (mkv n fun j=>(ent M t j*q)%p)) i c=0:=fun i hi eG=>by rw[eo i c hi eG hc,hq,Hf];rw[show at0 (if i=t then M.getD d []else M.getD i []) c+(0-at0 (if i=t then M.getD d []else M.getD i []) c)=0 from by omega];simp
 have fK:∀i,i<d→(if i=t then M.getD d []else M.getD i [])=M.getD i []:=fun i hi=>by rw[if_neg (by omega)]
 have bI:∀i,d≤i→i<m→ ∀j,j<c→at0 (if i=t then M.getD d []else M.getD i []) j=0:=fun i hi eQ j hj=>by
  split
  ·exact h.zero d (Jl _) hd j hj
  ·exact h.zero i hi eQ j hj
 refine⟨sP,fun i hi=>?_,by omega,fun i hi=>?_,fun i hi=>?_,fun i hi j hj=>?_,fun i k hi hk eG=>?_,fun i j gM hj=>?_,fun k hk fp j hj=>?_,?_⟩
 ·rw[kO hi]
  split
  ·exact prow
  ·exact zAE hp
 ·by_cases ef:i=d
  ·rw[if_pos ef];omega
  ·rw[if_neg ef];have:=h.lt i (by omega);omega
 ·by_cases ef:i=d
  ·subst ef;rw[if_pos rfl,ed c hc,hq]
  ·have h1:=h.lt i (by omega)
   rw[if_neg ef,el i _ (by omega) ef h1,fK i (by omega)];exact h.one i (by omega)
 ·by_cases ef:i=d
  ·subst ef
   rw[if_pos rfl]at hj;rw[ed j (by omega),p0 j hj]
  ·rw[if_neg ef]at hj
   have h1:=h.lt i (by omega);rw[el i j (by omega) ef (by omega),fK i (by omega)];exact h.low i (by omega) j hj
 ·by_cases ef:i=d
  ·subst ef
   rw[if_pos rfl];exact ec k hk eG
  ·have h1:=h.lt i (by omega)
   rw[if_neg ef]
   by_cases mw:k=d
   ·subst mw
    rw[ed _ (by omega),h.off i t (by omega) tw (by omega)];simp
   ·rw[el k _ hk mw h1]
    split
    ·exact h.off i d (by omega) hd (Ne.symm ef)
    ·exact h.off i k (by omega) hk eG
 ·by_cases hjd:j=d
  ·subst hjd
   rw[if_pos rfl,if_neg (by omega)];exact h.lt i (by omega)
  ·rw[if_neg hjd,if_neg (by omega)];exact h.mono i j gM (by omega)
 ·rcases Jj j c with hjc|hjc
  ·rw[el k j fp (by omega) hjc];exact bI k (by omega) fp j hjc
  ·rw[show j=c from by omega];exact ec k fp (by omega)
 ·refine jM.trans ⟨fun i hi=>?_,fun i hi=>?_⟩ h.sp
  ·rw[sP]at hi
   rw[kO hi];have hr:Sp p n M (mkv n fun j=>(ent M t j*q)%p):=by
    refine zBd (k:=q) (zEH (u:=[]) fun j _=>by simp[at0]) (qM (R:=M) (i:=t) (by rw[h.len];exact tw)) fun j hj=>?_
    rw[pr j hj,K9,U7];simp[at0]
   split
   ·exact hr
   ·refine zBd (k:=0-at0 (if i=t then M.getD d []else M.getD i []) c) (v:=if i=t then M.getD d []else M.getD i []) ?_ hr fun j hj=>?_
    ·split
     ·exact qM (by rw[h.len];exact hd)
     ·exact qM (by rw[h.len];exact hi)
    ·rw[tU,yH hj,K9]
  ·rw[h.len]at hi
   have hr:=zBT (p:=p) (n:=n) (m:=m) (F:=fun i=>if i=d then mkv n fun j=>(ent M t j*q)%p else tU p n (if i=t then M.getD d []else M.getD i []) (0-at0 (if i=t then M.getD d []else M.getD i []) c) (mkv n fun j=>(ent M t j*q)%p)) hd;simp only[if_true]at hr;have hg:∀k,k<m→k≠d→Sp p n (mkR m fun i=>if i=d then mkv n fun j=>(ent M t j*q)%p else tU p n (if i=t then M.getD d []else M.getD i []) (0-at0 (if i=t then M.getD d []else M.getD i []) c) (mkv n fun j=>(ent M t j*q)%p)) (if k=t then M.getD d []else M.getD k []):=fun k hk mw=>by
    have h1:=zBT (p:=p) (n:=n) (m:=m) (F:=fun i=>if i=d then mkv n fun j=>(ent M t j*q)%p else tU p n (if i=t then M.getD d []else M.getD i []) (0-at0 (if i=t then M.getD d []else M.getD i []) c) (mkv n fun j=>(ent M t j*q)%p)) hk;simp only[if_neg mw]at h1;refine zBd (k:=at0 (if k=t then M.getD d []else M.getD k []) c) h1 hr fun j hj=>?_
    rw[tU,yH hj,pr j hj];exact zSJ _ _ _ _
   by_cases e6:i=t
   ·
    subst e6;refine zBd (k:=ent M i c) (zEH (u:=[]) fun j _=>by simp[at0]) hr fun j hj=>?_
    rw[pr j hj];have e1:(ent M i c*((ent M i j*q)%p))%p=(ent M i j*((ent M i c*q)%p))%p:=by
     rw[Jv,K9,←Jv,Jv (ent M i j),K9,←Jv]
     congr 1
     rw[←H8,←H8,U7 (ent M i c)]
    rw[show at0 ([]:List Int) j=0 from by simp[at0],Lv,e1,hq,Hf]
   ·by_cases ef:i=d
    ·subst ef
     have:=hg t tw (by omega);rw[if_pos rfl]at this;exact this
    ·have:=hg i hi ef
     rw[if_neg e6]at this;exact this
end
end Go.Pl

namespace Go.Pl
open Go Go.Ab Go.Wk Go.Pc
theorem zAF{v:List Int}(h:v.length≤1000000):f_F v=iz v:=by unfold f_F;rw[yE (by simp;omega),bs,Ju]
theorem zI3{rows:Mx}(hm:rows.length≤1000000)(hn:∀i,i<rows.length→(rows.getD i []).length≤1000000):zWl rows=iz rows:=by
 unfold zWl;have:=zV (body:=zMD rows) (r:=rows) (fun i=>(rows.take i,(i:Int))) rows.length (fun i hi=>by
  unfold zMD;simp only
  rw[yY hi,zM,yR [] hi,bs,zAF (hn i hi),bs,yE (by simp;omega),bs,zC (by omega) (by omega),bs,cs,K0 hi,J2,J3 hi];rfl) (by
  unfold zMD;simp only
  rw[xR,zK,Lj])
 rw[show((0:Nat):Int)=0 from rfl,K5]at this;rw[this,bs]
theorem zQv{M:Mx}{d c m n:Nat}(hm:M.length=m)(hd:d≤m)(hmm:m≤1000000)(fE:∀i,i<m→(M.getD i []).length=n)(hc:c<n):
  ∃t:Nat,d≤t∧t≤m∧zH (zIA (M,(d:Int),(c:Int))) (d:Int)=iz (t:Int)∧(∀k,d≤k→k<t→ent M k c=0)∧(t<m→ent M t c≠0):=by
 have key:∀k,k≤m-d→ ∃t:Nat,m-k≤t∧t≤m∧zH (zIA (M,(d:Int),(c:Int))) ((m-k:Nat):Int)=iz (t:Int)∧(∀q,m-k≤q→q<t→ent M q c=0)∧(t<m→ent M t c≠0):=by
  intro k
  induction k with
  |zero=>
   intro _;refine⟨m,by omega,Jl _,?_,fun q h1 h2=>by omega,fun h=>by omega⟩;rw[xL];unfold zIA;simp only
   rw[hm,show m-0=m from rfl,xR,zK]
  |succ k ih=>
   intro hk;obtain⟨t,h1,h2,h3,h4,h5⟩:=ih (by omega);have gE:m-(k+1)<m:=by omega
   by_cases hz:ent M (m-(k+1)) c=0
   ·refine⟨t,by omega,h2,?_,fun q q1 q2=>?_,h5⟩
    ·rw[xL]
     have e:zIA (M,(d:Int),(c:Int)) ((m-(k+1):Nat):Int)=iz (.inl ((m-k:Nat):Int)):=by
      unfold zIA;simp only
      rw[hm,yY gE,zM,yR [] (by omega),bs,yQ (by rw[fE _ gE];exact hc),bs,zLX hz,zM,zC (by omega) (by omega),bs,cs,show m-(k+1)+1=m-k from by omega]
     rw[e];exact h3
    ·rcases Jj (m-(k+1)) q with g|g
     ·exact h4 q (by omega) q2
     ·rw[show q=m-(k+1)from by omega];exact hz
   ·refine⟨m-(k+1),Jl _,by omega,?_,fun q q1 q2=>by omega,fun _=>hz⟩
    rw[xL];have e:zIA (M,(d:Int),(c:Int)) ((m-(k+1):Nat):Int)=iz (.inr ((m-(k+1):Nat):Int)):=by
     unfold zIA;simp only
     rw[hm,yY gE,zM,yR [] (by omega),bs,yQ (by rw[fE _ gE];exact hc),bs,zLY hz,zK]
    rw[e]
 obtain⟨t,h1,h2,h3,h4,h5⟩:=key (m-d) (Jl _);rw[show m-(m-d)=d from by omega]at h1 h3 h4;exact⟨t,h1,h2,h3,h4,h5⟩
section
variable {p:Int} (hp:Prime p) {n m:Nat}{M:Mx}{d c t:Nat}
 include hp
theorem zNB{F:Nat→List Int}{q:Int}{b:Bool}(hd:d<m)(hr:Row p n (F d))(hn:n≤1000000)(hq:0≤q∧q≤p-1){v:List Int}(hv:v.length=n){s:Mx×Int×Int}(hs:s.2.1=(d:Int)):
  zH (zME p s (q,b) v) (mkR m F,0)=iz (mkR m fun i=>if i=d then mkv n fun j=>(at0 (F d) j*q)%p else F i):=by
 have h7:=hp.pos;have:=zV (body:=zME p s (q,b) v) (r:=mkR m fun i=>if i=d then mkv n fun j=>(at0 (F d) j*q)%p else F i) (fun k=>(mkR m fun i=>if i=d then mkv n (fun j=>if j<k then(at0 (F d) j*q)%p else at0 (F d) j)else F i,(k:Int))) n (fun k hk=>by
  have a1:=hr.2 k hk;have a2:=zBR hp (k:=q) ⟨by omega,by omega⟩ a1;have a3:=Gy a1.1 hq.1;rw[U7]at a2;unfold zME;simp only
  rw[hv,yY hk,zM,hs,zKj hd];simp only[bs,if_true];rw[yQ (by rw[yA];exact hk),yH hk,if_neg (by omega)];simp only[bs];rw[zC (by omega) (by omega)];simp only[bs,tT];rw[if_neg (by omega)];simp only[bs];rw[Kz a3,zC (by omega) (by omega)];simp only[bs,J9,cs];rw[zG0]
  congr 3
  refine qE fun i _=>?_
  by_cases hi:i=d
  ·rw[if_pos hi,if_pos hi,qU]
   refine zZ fun j _=>?_
   by_cases hj:j=k
   ·subst hj;rw[if_pos rfl,if_pos (by omega)]
   ·rw[if_neg hj]
    by_cases pP:j<k
    ·rw[if_pos pP,if_pos (by omega)]
    ·rw[if_neg pP,if_neg (by omega)]
  ·rw[if_neg hi,if_neg hi,if_neg hi]) (by
  unfold zME;simp only
  rw[hv,xR,zK]
  congr 2
  refine qE fun i _=>?_
  split
  ·exact zZ fun j hj=>by rw[if_pos hj]
  ·rfl)
 rw[show((0:Nat):Int)=0 from rfl]at this;rw[←this]
 congr 2
 refine qE fun i _=>?_
 split
 ·rename_i e;subst e
  conv=>lhs;rw[vY hr.1]
  exact zZ fun j _=>by rw[if_neg (by omega)]
 ·rfl
theorem zNC{F:Nat→List Int}(hd:d<m)(hc:c<n)(hr:∀i,i<m→Row p n (F i))(hn:n≤1000000)(hm:m≤1000000){r21:Mx}(hl:r21.length=m){s:Mx×Int×Int}(hs:s.2.1=(d:Int))(cY:s.2.2=(c:Int)):
  zH (zOn p s r21) (mkR m F,0)=iz (mkR m fun i=>if i=d then F d else tU p n (F i) (0-at0 (F i) c) (F d)):=by
 have h7:=hp.pos;have:=zV (body:=zOn p s r21) (r:=mkR m fun i=>if i=d then F d else tU p n (F i) (0-at0 (F i) c) (F d)) (fun k=>(mkR m fun i=>if i<k∧i≠d then tU p n (F i) (0-at0 (F i) c) (F d)else F i,(k:Int))) m (fun k hk=>by
  have a1:=(hr k hk).2 c hc;unfold zOn;simp only
  rw[hl,yY hk,zM,hs,cY]
  by_cases mw:k=d
  ·subst mw
   rw[zCD rfl,zK,zC (by omega) (by omega),bs,cs]
   congr 3
   refine qE fun i _=>?_
   by_cases hi:i=k
   ·subst hi;rw[if_neg (by omega),if_neg (by omega)]
   ·by_cases eQ:i<k
    ·rw[if_pos ⟨eQ,hi⟩,if_pos ⟨by omega,hi⟩]
    ·rw[if_neg (by omega),if_neg (by omega)]
  ·rw[zCj (by omega),zM,zKj hk,zKj hd]
   simp only[bs,ne_eq,not_true_eq_false,and_false,if_false,Jbw,false_and];rw[yQ (by rw[(hr k hk).1];exact hc)];simp only[bs];rw[zC (by omega) (by omega)];simp only[bs];rw[zB1 hp (hr k hk) (hr d hd) (by omega) hn,bs,zC (by omega) (by omega)];simp only[bs,J9,cs];rw[zG0]
   congr 3
   refine qE fun i _=>?_
   by_cases hi:i=k
   ·subst hi;rw[if_pos rfl,if_pos ⟨by omega,mw⟩]
   ·rw[if_neg hi]
    by_cases eQ:i<k∧ ¬i=d
    ·rw[if_pos eQ,if_pos ⟨by omega,eQ.2⟩]
    ·rw[if_neg eQ,if_neg (by omega)]) (by
  unfold zOn;simp only
  rw[hl,xR,zK]
  congr 2
  refine qE fun i hi=>?_
  by_cases ef:i=d
  ·rw[if_pos ef,if_neg (by omega),ef]
  ·rw[if_neg ef,if_pos ⟨hi,ef⟩])
 rw[show((0:Nat):Int)=0 from rfl]at this;rw[←this]
 congr 2
end
end Go.Pl

namespace Go.Pl
open Go Go.Ab Go.Wk Go.Pc
theorem Red.empty{p:Int}{n:Nat}:Red p n [] (fun _=>0):=⟨fun _ h=>by simp at h,fun _ h=>by simp at h,fun _ h=>by simp at h,fun _ h=>by simp at h,fun _ _ h=>by simp at h,fun _ _ _ h=>by simp at h⟩
theorem zQu.take{p:Int}{n m:Nat}{rows:Mx}{c:Nat}{M:Mx}{d:Nat}{pv:Nat→Nat}(h:zQu p n m rows c M d pv)(aP:c≤n)(hz:∀k,d≤k→k<m→ ∀j,j<n→ent M k j=0):Red p n (M.take d) pv∧jM p n (M.take d) rows:=by
 have hl:(M.take d).length=d:=by rw[Jz,h.len];exact G8 h.dm
 have hg:∀i,i<d→(M.take d).getD i []=M.getD i []:=fun i hi=>by simp only[J2,Uq,if_pos hi]
 have dm:=h.dm;refine⟨⟨fun i hi=>?_,fun i hi=>?_,fun i hi=>?_,fun i hi j hj=>?_,fun i k hi hk gf=>?_,fun i j gM hj=>?_⟩,jM.trans ⟨fun i hi=>?_,fun i hi=>?_⟩ h.sp⟩
 ·rw[hl]at hi;rw[hg i hi];exact h.row i (by omega)
 ·rw[hl]at hi;have:=h.lt i hi;omega
 ·rw[hl]at hi;simp only[ent,hg i hi];exact h.one i hi
 ·rw[hl]at hi;simp only[ent,hg i hi];exact h.low i hi j hj
 ·rw[hl]at hi hk;simp only[ent,hg k hk];exact h.off i k hi (by omega) gf
 ·rw[hl]at hj;exact h.mono i j gM hj
 ·rw[hl]at hi;rw[hg i hi];exact qM (by rw[h.len];omega)
 ·rw[h.len]at hi
  rcases Jj i d with g|g
  ·have:=qM (p:=p) (n:=n) (R:=M.take d) (i:=i) (by rw[hl];exact g)
   rw[hg i g]at this;exact this
  ·exact zEH fun j hj=>by have:=hz i g hi j hj;simp only[ent]at this;rw[this];rfl
section
variable {p:Int} (hp:Prime p) {n:Nat}{rows:Mx} (hn:n≤100000) (hm:rows.length≤600000) (hr:∀i,i<rows.length→Row p n (rows.getD i []))
 include hp hn hm hr
theorem zLZ:∃R pv,f_j p rows=iz R∧Red p n R pv∧jM p n R rows:=by
 have h7:=hp.pos;unfold f_j;rw[zI3 (by omega) (fun i hi=>by have:=(hr i hi).1;omega),bs];have main:=tL (body:=zOo p) (s:=(rows,0,0)) (Q:=fun r=> ∃(M:Mx)(d:Nat)(pv:Nat→Nat),r=(M,(d:Int))∧d≤M.length∧Red p n (M.take d) pv∧jM p n (M.take d) rows)
  (fun i s=> ∃(M:Mx)(d:Nat)(pv:Nat→Nat),s=(M,(d:Int),(i:Int))∧zQu p n rows.length rows i M d pv∧i≤n) n (fun c s hc hI=>?_) (fun s hI=>?_) ⟨rows,0,fun _=>0,rfl,⟨rfl,hr,L7 _,fun _ h=>by omega,fun _ h=>by omega,fun _ h=>by omega,fun _ _ h=>by omega,fun _ _ _ h=>by omega,fun _ _ _ _ h=>by omega,jM.refl⟩,L7 _⟩
 ·obtain⟨r,h1,M,d,pv,rfl,hd,hR,hS⟩:=main
  rw[h1,bs];simp only
  have e:yB M 0 (d:Int)=iz (M.take d):=by unfold yB;rw[if_pos ⟨by omega,by omega,by omega⟩];simp
  rw[e,bs];exact⟨_,_,rfl,hR,hS⟩
 ·
  obtain⟨M,d,pv,rfl,h,aP⟩:=hI;have hl:=h.len;have ma:=h.dm
  by_cases h0:rows.length=0
  ·refine .inr ⟨(M,(d:Int)),?_,M,d,pv,rfl,by omega,h.take aP fun k hk fp=>by omega⟩
   unfold zOo;simp only
   rw[iD (by omega),zK]
  have e0:zOo p (M,(d:Int),(c:Int))=cond (decide ((d:Int)<(M.length:Int))) ((zH (zIA (M,(d:Int),(c:Int))) (d:Int)).bind fun r6=>
    cond (r6==(M.length:Int)) ((rng ((c:Int)+1)).bind fun v7=>iz (.inl (M,(d:Int),v7))) (
     (ixO M r6).bind fun v8=>(ixO M (d:Int)).bind fun v9=>(ixO (jQ M (d:Int) r6 v8 v9) (d:Int)).bind fun v10=>(ixO v10 (c:Int)).bind fun v11=>(f_T v11 p).bind fun r12=>
     (ixO (jQ M (d:Int) r6 v8 v9) (d:Int)).bind fun v13=>(zH (zME p (M,(d:Int),(c:Int)) r12 v13) (jQ M (d:Int) r6 v8 v9,0)).bind fun r21=>
     (zH (zOn p (M,(d:Int),(c:Int)) r21) (r21,0)).bind fun r30=>(rng ((d:Int)+1)).bind fun v31=>(rng ((c:Int)+1)).bind fun v32=>iz (.inl (r30,v31,v32)))) (iz (.inr (M,(d:Int)))):=by
   unfold zOo;simp only
   have hx:ixO M (0:Int)=iz (M.getD 0 []):=by have:=yR (v:=M) (i:=0) [] (by omega);exact this
   rw[iE (by omega),zM,hx];simp only[bs];rw[(h.row 0 (by omega)).1,yY hc,zM]
  rcases Jj d rows.length with hd|hd
  ·obtain⟨t,t1,t2,t3,t4,t5⟩:=zQv (M:=M) (d:=d) (c:=c) (m:=rows.length) (n:=n) hl ma (by omega) (fun i hi=>(h.row i hi).1) hc
   rw[e0,hl,yY hd,zM,t3];simp only[bs]
   by_cases tw:t=rows.length
   ·
    left;refine⟨(M,(d:Int),((c+1:Nat):Int)),?_,M,d,pv,rfl,⟨hl,h.row,ma,fun i hi=>by have:=h.lt i hi;omega,h.one,h.low,h.off,h.mono,fun k k1 k2 j hj=>?_,h.sp⟩,by omega⟩
    ·rw[zLX (by omega),zM,zC (by omega) (by omega),bs,cs]
    ·rcases Jj j c with g|g
     ·exact h.zero k k1 k2 j g
     ·rw[show j=c from by omega];exact t4 k k1 (by omega)
   ·have fN:t<rows.length:=by omega
    have gf:=t5 fN;have fa:=h.row t fN;have hrc:=fa.2 c hc;obtain⟨q,q1,q2,q3,q4⟩:=zEJ (p:=p) (x:=ent M t c) hp (by simp only[ent]at gf ⊢;omega) (by simp only[ent];omega);left;have hM:M=mkR rows.length (fun i=>M.getD i []):=zYm hl;obtain⟨F,hF⟩:∃F:Nat→List Int,∀i,F i=if i=t then M.getD d []else if i=d then M.getD t []else M.getD i []:=⟨_,fun _=>rfl⟩
    have mj:jQ M (d:Int) (t:Int) (M.getD t []) (M.getD d [])=mkR rows.length F:=by
     unfold jQ;rw[J9,J9]
     conv=>lhs;rw[hM]
     rw[zG0,zG0];exact qE fun i hi=>by rw[hF,kO hd,kO fN]
    have mn:∀i,i<rows.length→Row p n (F i):=fun i hi=>by
     rw[hF];split
     ·exact h.row d hd
     ·split
      ·exact fa
      ·exact h.row i hi
    have hFd:F d=M.getD t []:=by
     rw[hF]
     by_cases e:d=t
     ·rw[if_pos e,e]
     ·rw[if_neg e,if_pos rfl]
    obtain⟨G,hG⟩:∃G:Nat→List Int,∀i,G i=if i=d then mkv n fun j=>(at0 (F d) j*q)%p else F i:=⟨_,fun _=>rfl⟩
    have hGd:G d=mkv n fun j=>(ent M t j*q)%p:=by rw[hG,if_pos rfl,hFd]
    have hGo:∀i,i≠d→G i=if i=t then M.getD d []else M.getD i []:=fun i ef=>by rw[hG,if_neg ef,hF];simp only[ef,if_false]
    have bM:zH (zME p (M,(d:Int),(c:Int)) (q,iB) (M.getD t [])) (mkR rows.length F,0)=iz (mkR rows.length G):=by
     rw[zNB hp (F:=F) hd (mn d hd) (by omega) ⟨q2,q3⟩ fa.1 rfl]
     congr 1
     exact qE fun i _=>(hG i).symm
    have hF3:∀i,i<rows.length→Row p n (G i):=fun i hi=>by
     rw[hG];split
     ·refine⟨yA _ _,fun j hj=>?_⟩
      have e1:=L5 (at0 (F d) j*q) (show p≠0 by omega);have e2:=Kl (at0 (F d) j*q) (show 0<p by omega);rw[yH hj];omega
     ·exact mn i hi
    have gC:=zNC hp (c:=c) (F:=G) hd hc hF3 (by omega) (by omega) (r21:=mkR rows.length G) sP (s:=(M,(d:Int),(c:Int))) rfl rfl;rw[zLY (by omega),zK,yR [] (by omega),yR [] (by omega)];simp only[bs];rw[mj,zKj hd,hFd];simp only[bs];rw[yQ (by rw[fa.1];exact hc)];simp only[bs];rw[show at0 (M.getD t []) c=ent M t c from rfl,q1];simp only[bs];rw[bM];simp only[bs];rw[gC];simp only[bs];rw[zC (by omega) (by omega),zC (by omega) (by omega)];simp only[bs,cs];have bw:=h.pivot hp hc hd t1 fN gf q4;refine⟨_,rfl,_,d+1,fun i=>if i=d then c else pv i,rfl,?_,by omega⟩;have e3:(mkR rows.length fun i=>if i=d then G d else tU p n (G i) (0-at0 (G i) c) (G d))=(mkR rows.length fun i=>if i=d then mkv n fun j=>(ent M t j*q)%p else tU p n (if i=t then M.getD d []else M.getD i []) (0-at0 (if i=t then M.getD d []else M.getD i []) c) (mkv n fun j=>(ent M t j*q)%p)):=by
     refine qE fun i hi=>?_
     rw[hGd]
     by_cases ef:i=d
     ·rw[if_pos ef,if_pos ef]
     ·rw[if_neg ef,if_neg ef,hGo i ef]
    rw[e3];exact bw
  ·
   refine .inr ⟨(M,(d:Int)),?_,M,d,pv,rfl,by omega,h.take aP fun k hk fp=>by omega⟩;rw[e0,iD (by omega),zK]
 ·
  obtain⟨M,d,pv,rfl,h,aP⟩:=hI;have hl:=h.len;have ma:=h.dm;refine⟨(M,(d:Int)),?_,M,d,pv,rfl,by omega,h.take aP fun k hk fp j hj=>h.zero k hk fp j hj⟩;unfold zOo;simp only
  by_cases h0:rows.length=0
  ·rw[iD (by omega),zK]
  ·have hx:ixO M (0:Int)=iz (M.getD 0 []):=by
    have:=yR (v:=M) (i:=0) [] (by omega);exact this
   rw[iE (by omega),zM,hx];simp only[bs];rw[(h.row 0 (by omega)).1,xR,zK]
end
end Go.Pl

namespace Go.Pl
open Go Go.Ab Go.Wk Go.Pc
theorem zJt{v:List Int}{n:Nat}(hl:v.length=n)(hn:n≤1000000):∃k:Nat,k≤n∧f_D v=iz (k:Int)∧(∀j,j<k→at0 v j=0)∧(k<n→at0 v k≠0):=by
 unfold f_D;rcases chk (body:=zIB v) n 0 (L7 _) (fun i=>at0 v i=0) (fun i=>(i:Int)) (fun i _ hi _=>by
   unfold zIB;rw[hl,yY hi,zM,yQ (by omega),bs]
   by_cases h:at0 v i=0
   ·rw[zCD h,zK,zC (by omega) (by omega),bs,cs];exact .inl ⟨rfl,h⟩
   ·rw[zCj h,zM];exact .inr ⟨rfl,h⟩) (by
   unfold zIB;rw[hl,xR,zK])with⟨h1,h2⟩|⟨i,_,hi,h1,h2⟩
 ·rw[show((0:Nat):Int)=0 from rfl]at h1
  rw[h1,bs];exact⟨n,Jl _,by simp only[hl],fun j hj=>h2 j (L7 _) hj,fun h=>by omega⟩
 ·rw[show((0:Nat):Int)=0 from rfl]at h1
  rw[h1,bs];obtain⟨k,⟨hk1,fp⟩,eH⟩:=zD2 (p:=fun k=>k<n∧at0 v k≠0) ⟨i,hi,h2⟩;have hz:∀j,j<k→at0 v j=0:=fun j hj=>Classical.byContradiction fun h=>eH j hj ⟨by omega,h⟩
  have hki:k=i:=by
   have eO:∀q,q≤k→zH (zIB v) ((k-q:Nat):Int)=iz (.inr (k:Int)):=by
    intro q
    induction q with
    |zero=>
     intro _;rw[xL];have e:zIB v ((k-0:Nat):Int)=iz (.inr (.inr (k:Int))):=by unfold zIB;rw[show k-0=k from rfl,hl,yY hk1,zM,yQ (by omega),bs,zCj fp,zM]
     rw[e]
    |succ q ih=>
     intro hq;rw[xL];have e:zIB v ((k-(q+1):Nat):Int)=iz (.inl ((k-q:Nat):Int)):=by unfold zIB;rw[hl,yY (by omega),zM,yQ (by omega),bs,zCD (hz _ (by omega)),zK,zC (by omega) (by omega),bs,cs,show k-(q+1)+1=k-q from by omega]
     rw[e];exact ih (by omega)
   have:=eO k (Jl _);rw[Kd,show((0:Nat):Int)=0 from rfl,h1]at this;have:=Sum.inr.inj (Ld.inj this);omega
  exact⟨i,by omega,rfl,by rw[←hki];exact hz,fun _=>h2⟩
theorem zKk{v:List Int}{n k:Nat}(hl:v.length=n)(hn:n≤1000000)(hk:k<n)(h0:∀j,j<k→at0 v j=0)(h1:at0 v k≠0):f_D v=iz (k:Int):=by
 obtain⟨q,q1,q2,q3,q4⟩:=zJt hl hn;have:q=k:=by
  rcases Hw q k with g|g|g
  ·exact absurd (h0 q g) (q4 (by omega))
  ·exact g
  ·exact absurd (q3 k g) h1
 rw[q2,this]
theorem zSK{p x:Int}(hp:Prime p)(h0:1≤x)(h1:x≤p-1):∃r,zWm x p=iz r∧0≤r∧r≤p-1∧(x*r)%p=1:=by
 have h7:=hp.pos;have hx:∃k:Nat,1≤k∧(k:Int)<p∧(x*(k:Int))%p=1:=by
  obtain⟨r,_,r1,r2,r3⟩:=zEJ hp h0 h1;refine⟨r.toNat,?_,by omega,by rw[Jda r1];exact r3⟩;rcases Int.lt_or_eq_of_le r1 with g|g
  ·omega
  ·rw[←g]at r3;simp at r3
 obtain⟨k,⟨k1,k2,k3⟩,eH⟩:=zD2 hx;have body:∀i:Nat,1≤i→(i:Int)<p→zMF x p (i:Int)=cond ((x*(i:Int))%p==1) (iz (.inr (.inr (i:Int)))) (iz (.inl ((i+1:Nat):Int))):=fun i hi hip=>by
  have a3:=Gy (show 0≤x by omega) (show 0≤(i:Int)by omega);have a4:=zBR hp (k:=(i:Int)) ⟨by omega,by omega⟩ (b:=x) ⟨by omega,h1⟩;rw[U7]at a4;unfold zMF;rw[iE hip,zM,zLW hp (by omega) (by omega),bs,Kb (by omega) (by omega),zC (by omega) (by omega),bs];unfold tT;rw[if_neg (by omega),bs,Kz a3]
  by_cases hh:(x*(i:Int))%p=1
  ·rw[zLX hh,zM,zM]
  ·rw[zLY hh,zK,zK,zC (by omega) (by omega),bs,cs]
 have eO:∀q,q+1≤k→zH (zMF x p) ((k-q:Nat):Int)=iz (.inr (k:Int)):=by
  intro q
  induction q with
  |zero=>
   intro _;rw[xL,show k-0=k from rfl,body k k1 k2,zLX k3,zM]
  |succ q ih=>
   intro hq;have gf:(x*((k-(q+1):Nat):Int))%p≠1:=fun h=>eH (k-(q+1)) (by omega) ⟨by omega,by omega,h⟩
   rw[xL,body _ (by omega) (by omega),zLY gf,zK,show k-(q+1)+1=k-q from by omega];exact ih (by omega)
 have:=eO (k-1) (by omega);rw[show k-(k-1)=1 from by omega,show((1:Nat):Int)=1 from rfl]at this;refine⟨(k:Int),?_,by omega,by omega,k3⟩;unfold zWm;rw[this,bs]
section
variable {p:Int} (hp:Prime p) {n:Nat} (hn:n≤100000)
 include hp hn
theorem zYn{r s:List Int}(hr:Row p n r):tU p n r p s=r:=by
 have _:=hp;have _:=hn
 conv=>rhs;rw[vY hr.1]
 refine zZ fun j hj=>?_
 have:=hr.2 j hj;rw[Ly];exact Kb this.1 (by omega)
def cl(p:Int)(n:Nat)(out:Mx)(pv:Nat→Nat)(v:List Int):Nat→List Int
 |0=>v
 |i+1=>tU p n (cl p n out pv v i) (p-at0 (cl p n out pv v i) (pv i)) (out.getD i [])
variable {out:Mx}{pv:Nat→Nat} (h:Red p n out pv) {v:List Int} (hv:Row p n v)
 include h hv
theorem zKl:∀i,Row p n (cl p n out pv v i):=by
 have _:=hn;have _:=h;intro i;cases i with
 |zero=>exact hv
 |succ i=>exact zAE hp
theorem zYo:∀i,i≤out.length→ ∀k,k<i→at0 (cl p n out pv v i) (pv k)=0:=by
 have _:=hn;have _:=hv;have h7:=hp.pos;intro i
 induction i with
 |zero=>intro _ k hk;omega
 |succ i ih=>
  intro hi k hk;have gE:=h.lt k (by omega);rw[cl,tU,yH gE];rcases Jj k i with g|g
  ·have h1:=ih (by omega) k g
   have h2:=h.off k i (by omega) (by omega) (by omega);simp only[ent]at h2;rw[h1,h2];simp
  ·have hki:k=i:=by omega
   subst hki;have h2:=h.one k (by omega);simp only[ent]at h2;rw[h2,Hf,show at0 (cl p n out pv v k) (pv k)+(p-at0 (cl p n out pv v k) (pv k))=p from by omega,Int.emod_self]
theorem zVD:∀i,i≤out.length→ ∃cf:Nat→Int,∀j,j<n→at0 (cl p n out pv v i) j%p=(at0 v j+S out.length fun k=>cf k*ent out k j)%p:=by
 have _:=hp;have _:=h;have _:=hv;have _:=hn;intro i
 induction i with
 |zero=>intro _;exact⟨fun _=>0,fun j _=>by rw[xQ (g:=fun _=>0) (fun i _=>by simp),qL,H5];rfl⟩
 |succ i ih=>
  intro hi;obtain⟨cf,cH⟩:=ih (by omega);refine⟨fun k=>cf k+(if k=i then p-at0 (cl p n out pv v i) (pv i)else 0),fun j hj=>?_⟩;have e1:(S out.length fun k=>(cf k+(if k=i then p-at0 (cl p n out pv v i) (pv i)else 0))*ent out k j)=(S out.length fun k=>cf k*ent out k j)+(p-at0 (cl p n out pv v i) (pv i))*ent out i j:=by rw[xQ (g:=fun k=>cf k*ent out k j+(if k=i then p-at0 (cl p n out pv v i) (pv i)else 0)*ent out k j) (fun k _=>by rw[Ja2]),zCK,zAj (f:=fun k=>(if k=i then p-at0 (cl p n out pv v i) (pv i)else 0)*ent out k j) (k:=i) (by omega) (fun k _ hk=>by simp[hk])];simp
  rw[e1,cl,tU,yH hj,K9,←Jc0,Kf,cH j hj,←Kf]
theorem zHJ(hm:out.length≤100000):f_Z p out v=iz (cl p n out pv v out.length):=by
 have h7:=hp.pos;unfold f_Z;rw[tM (by rw[hv.1];omega),bs];have:=zV (body:=zUA p out) (r:=cl p n out pv v out.length) (fun i=>(cl p n out pv v i,(i:Int))) out.length (fun i hi=>by
  have hr:=zKl hp hn h hv i;have ho:=h.row i hi;have gE:=h.lt i hi;have gr:=h.one i hi;have fK:=h.low i hi;simp only[ent]at gr fK;have he:=hr.2 (pv i) gE;unfold zUA;simp only
  rw[yY hi,zM,yR [] hi,bs,zKk ho.1 (by omega) gE fK (by rw[gr];decide),bs,hr.1,yY gE,zM,yQ (by rw[hr.1];exact gE),bs]
  by_cases hz:at0 (cl p n out pv v i) (pv i)=0
  ·rw[zCD hz,zK,zC (by omega) (by omega),bs,cs,cl,hz,Jcq,zYn hp hn hr]
  ·rw[zCj hz,zM,bs,zC (by omega) (by omega),bs,bs,tW hp hr ho ⟨by omega,by omega⟩ (by omega),bs,zC (by omega) (by omega),bs,cs]
   rfl) (by
  unfold zUA;simp only
  rw[xR,zK])
 rw[show((0:Nat):Int)=0 from rfl]at this;simp only[cl]at this;rw[this,bs]
end
end Go.Pl

namespace Go.Pl
open Go Go.Ab Go.Wk Go.Pc
section
variable {p:Int} (hp:Prime p) {n:Nat}{out:Mx}{pv:Nat→Nat} (h:Red p n out pv) {u:List Int}{k q:Nat} (hu:Row p n u) (hk:k<n) (u1:at0 u k=1) (ul:∀j,j<k→at0 u j=0) (up:∀i,i<out.length→at0 u (pv i)=0) (hq:q≤out.length) (q1:∀i,i<q→pv i<k) (q2:∀i,q≤i→i<out.length→k<pv i)
def oth(p:Int)(n:Nat)(out:Mx)(u:List Int)(k i:Nat):List Int:=tU p n (out.getD i []) (p-at0 (out.getD i []) k) u
def sU(p:Int)(n:Nat)(out:Mx)(u:List Int)(k q i:Nat):List Int:=if i<q then oth p n out u k i else if i=q then u else oth p n out u k (i-1)
def zVE(pv:Nat→Nat)(k q i:Nat):Nat:=if i<q then pv i else if i=q then k else pv (i-1)
 include hp h hu hk u1 ul up hq q1 q2
theorem zND{i j:Nat}(hj:j<n):at0 (oth p n out u k i) j=(at0 (out.getD i []) j-at0 (out.getD i []) k*at0 u j)%p:=by have _:=hp;have _:=h;have _:=hu;have _:=hk;have _:=u1;have _:=ul;have _:=up;have _:=hq;have _:=q1;have _:=q2;rw[oth,tU,yH hj,show at0 (out.getD i []) j+(p-at0 (out.getD i []) k)*at0 u j=at0 (out.getD i []) j-at0 (out.getD i []) k*at0 u j+p*at0 u j from by rw[Qz];omega,Ly]
theorem zEK{i j:Nat}(hi:i<out.length)(hj:j<n)(hz:at0 (out.getD i []) k=0∨at0 u j=0):at0 (oth p n out u k i) j=ent out i j:=by
 rw[zND hp h hu hk u1 ul up hq q1 q2 hj];have:=(h.row i hi).2 j hj;have e:at0 (out.getD i []) k*at0 u j=0:=by rcases hz with g|g<;>rw[g]<;>simp
 rw[e,Jcq];exact Kb this.1 (by omega)
theorem yA5{i:Nat}:at0 (oth p n out u k i) k=0:=by rw[zND hp h hu hk u1 ul up hq q1 q2 hk,u1,Hf,Int.sub_self];rfl
theorem zVF{i j:Nat}(hi:i<out.length)(hj:j<pv i)(gf:pv i≠k):at0 (oth p n out u k i) j=0:=by
 have gE:=h.lt i hi;rcases Jj (pv i) k with g|g
 ·rw[zEK hp h hu hk u1 ul up hq q1 q2 hi (by omega) (.inr (ul j (by omega)))];exact h.low i hi j hj
 ·have:=h.low i hi k (by omega)
  rw[zEK hp h hu hk u1 ul up hq q1 q2 hi (by omega) (.inl this)];exact h.low i hi j hj
theorem yA6{i:Nat}(hi:i<out.length):pv i≠k:=by have _:=h;have _:=q1;have _:=q2;have _:=hp;have _:=hu;have _:=hk;have _:=ul;have _:=hq;intro e;have:=up i hi;rw[e,u1]at this;cases this
theorem zJu{i:Nat}(hi:i<out.length+1):(i=q∧sU p n out u k q i=u∧zVE pv k q i=k)∨ ∃a,a<out.length∧(i<q∧a=i∨q<i∧i=a+1)∧sU p n out u k q i=oth p n out u k a∧zVE pv k q i=pv a:=by
 have _:=hp;have _:=h;have _:=hu;have _:=hk;have _:=u1;have _:=ul;have _:=up;have _:=q1;have _:=q2;unfold sU zVE;rcases Hw i q with g|g|g
 ·exact .inr ⟨i,by omega,.inl ⟨g,rfl⟩,by rw[if_pos g],by rw[if_pos g]⟩
 ·exact .inl ⟨g,by rw[if_neg (by omega),if_pos g],by rw[if_neg (by omega),if_pos g]⟩
 ·exact .inr ⟨i-1,by omega,.inr ⟨g,by omega⟩,by rw[if_neg (by omega),if_neg (by omega)],by rw[if_neg (by omega),if_neg (by omega)]⟩
theorem zNE:Red p n (mkR (out.length+1) (sU p n out u k q)) (zVE pv k q):=by
 have nc:=fun i hi=>zJu hp h hu hk u1 ul up hq q1 q2 (i:=i) hi
 have pn:=fun i hi=>yA6 hp h hu hk u1 ul up hq q1 q2 (i:=i) hi
 refine⟨fun i hi=>?_,fun i hi=>?_,fun i hi=>?_,fun i hi j hj=>?_,fun i j hi hj gf=>?_,fun i j gM hj=>?_⟩<;>rw[sP]at*
 ·rw[kO hi]
  rcases nc i hi with⟨_,e,_⟩|⟨a,_,_,e,_⟩<;>rw[e]
  ·exact hu
  ·exact zAE hp
 ·rcases nc i hi with⟨_,_,e⟩|⟨a,ha,_,_,e⟩<;>rw[e]
  ·exact hk
  ·exact h.lt a ha
 ·rw[zEI hi]
  rcases nc i hi with⟨_,e1,e2⟩|⟨a,ha,_,e1,e2⟩<;>rw[e1,e2]
  ·exact u1
  ·rw[zEK hp h hu hk u1 ul up hq q1 q2 ha (h.lt a ha) (.inr (up a ha))];exact h.one a ha
 ·rw[zEI hi]
  rcases nc i hi with⟨_,e1,e2⟩|⟨a,ha,_,e1,e2⟩<;>rw[e2]at hj<;>rw[e1]
  ·exact ul j hj
  ·exact zVF hp h hu hk u1 ul up hq q1 q2 ha hj (pn a ha)
 ·rw[zEI hj]
  rcases nc i hi with⟨g1,_,e2⟩|⟨a,ha,ga,_,e2⟩<;>rw[e2]<;>rcases nc j hj with⟨g3,e3,_⟩|⟨b,hb,gb,e3,_⟩<;>rw[e3]
  ·omega
  ·exact yA5 hp h hu hk u1 ul up hq q1 q2
  ·exact up a ha
  ·rw[zEK hp h hu hk u1 ul up hq q1 q2 hb (h.lt a ha) (.inr (up a ha))]
   exact h.off a b ha hb (by omega)
 ·rcases nc i (by omega)with⟨g1,_,e2⟩|⟨a,ha,ga,_,e2⟩<;>rw[e2]<;>rcases nc j hj with⟨g3,_,e4⟩|⟨b,hb,gb,_,e4⟩<;>rw[e4]
  ·omega
  ·exact q2 b (by omega) hb
  ·exact q1 a (by omega)
  ·exact h.mono a b (by omega) hb
theorem zQw:(∀i,i<out.length+1→Sp p n (out++[u]) (sU p n out u k q i))∧(∀i,i<out.length→Sp p n (mkR (out.length+1) (sU p n out u k q)) (out.getD i []))∧Sp p n (mkR (out.length+1) (sU p n out u k q)) u:=by
 have eY:Sp p n (out++[u]) u:=by have:=qM (p:=p) (n:=n) (R:=out++[u]) (i:=out.length) (by simp);simpa[J2]using this
 have hol:∀i,i<out.length→Sp p n (out++[u]) (out.getD i []):=fun i hi=>by have:=qM (p:=p) (n:=n) (R:=out++[u]) (i:=i) (by simp;omega);simpa[J2,Jx hi]using this
 have ui:∀i,i<out.length→Sp p n (out++[u]) (oth p n out u k i):=fun i hi=>
  zBd (k:=p-at0 (out.getD i []) k) (hol i hi) eY fun j hj=>by rw[oth,tU,yH hj,K9]
 have a6:Sp p n (mkR (out.length+1) (sU p n out u k q)) u:=by have:=zBT (p:=p) (n:=n) (m:=out.length+1) (F:=sU p n out u k q) (i:=q) (by omega);rw[show sU p n out u k q q=u from by unfold sU;rw[if_neg (by omega),if_pos rfl]]at this;exact this
 refine⟨fun i hi=>?_,fun i hi=>?_,a6⟩
 ·rcases zJu hp h hu hk u1 ul up hq q1 q2 hi with⟨_,e,_⟩|⟨a,ha,_,e,_⟩<;>rw[e]
  ·exact eY
  ·exact ui a ha
 ·have eQ:∃b,b<out.length+1∧sU p n out u k q b=oth p n out u k i:=by
   rcases Jj i q with g|g
   ·exact⟨i,by omega,by unfold sU;rw[if_pos g]⟩
   ·exact⟨i+1,by omega,by unfold sU;rw[if_neg (by omega),if_neg (by omega)];rfl⟩
  obtain⟨b,hb,e⟩:=eQ;have h1:=zBT (p:=p) (n:=n) (m:=out.length+1) (F:=sU p n out u k q) hb;rw[e]at h1;refine zBd (k:=at0 (out.getD i []) k) h1 a6 fun j hj=>?_
  rw[zND hp h hu hk u1 ul up hq q1 q2 hj,Kf,K9,←Kf,show at0 (out.getD i []) j-at0 (out.getD i []) k*at0 u j+at0 (out.getD i []) k*at0 u j=at0 (out.getD i []) j from by omega]
theorem zMa(hn:n≤100000)(hm:out.length≤100000){x:Int}:
  ((zH (zIC p (out,x) (k:Int) u) ([],iC,0)).bind fun r32=>cond (!r32.2) ((xI r32.1 [u]).bind fun v33=>iz v33) (iz r32.1))=iz (mkR (out.length+1) (sU p n out u k q)):=by
 have _:=u1;have _:=ul;have _:=up;have h7:=hp.pos;have ho:∀i,i<out.length→f_A p (out.getD i []) (p-at0 (out.getD i []) k) u=iz (oth p n out u k i)∧ixO (out.getD i []) (k:Int)=iz (at0 (out.getD i []) k)∧0≤at0 (out.getD i []) k∧at0 (out.getD i []) k≤p-1∧f_D (out.getD i [])=iz (pv i:Int):=fun i hi=>by have hr:=h.row i hi;have fp:=hr.2 k hk;have gr:=h.one i hi;have fK:=h.low i hi;simp only[ent]at gr fK;exact⟨by rw[tW hp hr hu ⟨by omega,by omega⟩ (by omega)];rfl,yQ (by rw[hr.1];exact hk),fp.1,fp.2,zKk hr.1 (by omega) (h.lt i hi) fK (by rw[gr];decide)⟩
 have a7:∀{m:Nat}{F:Nat→List Int},mkR m F++[F m]=mkR (m+1) F:=fun{m F}=>by simp[mkR,Lo]
 have:=zV (body:=zIC p (out,x) (k:Int) u) (r:=(if out.length≤q then(mkR out.length (sU p n out u k q),iC)else(mkR (out.length+1) (sU p n out u k q),iB)))
  (fun j=>if j≤q then(mkR j (sU p n out u k q),iC,(j:Int))else(mkR (j+1) (sU p n out u k q),iB,(j:Int))) out.length (fun j hj=>by
   obtain⟨a1,a2,a3,a4,a5⟩:=ho j hj;have dJ:rng (p-at0 (out.getD j []) k)=iz (p-at0 (out.getD j []) k):=zC (by omega) (by omega);rcases Hw j q with g|g|g
   ·have hpj:=q1 j g
    rw[if_pos (by omega),if_pos (by omega)];unfold zIC;simp only
    rw[yY hj,zM,Kq,zM,yR [] hj];simp only[bs,a5];rw[iD (by omega),zK,a2];simp only[bs,dJ,a1];rw[yE (by rw[sP];simp;omega),bs,zC (by omega) (by omega),bs,cs];have:sU p n out u k q j=oth p n out u k j:=by unfold sU;rw[if_pos g]
    rw[←this,a7]
   ·subst g
    have hpj:=q2 j (Jl _) hj;rw[if_pos (by omega),if_neg (by omega)];unfold zIC;simp only
    rw[yY hj,zM,Kq,zM,yR [] hj];simp only[bs,a5];rw[iE (by omega),zM,yE (by rw[sP];simp;omega),a2];simp only[bs,dJ,a1];have e1:sU p n out u k j j=u:=by unfold sU;rw[if_neg (by omega),if_pos rfl]
    have e2:sU p n out u k j (j+1)=oth p n out u k j:=by unfold sU;rw[if_neg (by omega),if_neg (by omega)];rfl
    have e3:mkR j (sU p n out u k j)++[u]=mkR (j+1) (sU p n out u k j):=by rw[←a7,e1]
    rw[e3,yE (by rw[sP];simp;omega),bs,zC (by omega) (by omega),bs,cs,←e2,a7]
   ·rw[if_neg (by omega),if_neg (by omega)]
    unfold zIC;simp only
    rw[yY hj,zM,Kc,zK,yR [] hj];simp only[bs,a2,dJ,a1];have e2:sU p n out u k q (j+1)=oth p n out u k j:=by unfold sU;rw[if_neg (by omega),if_neg (by omega)];rfl
    rw[yE (by rw[sP];simp;omega),bs,zC (by omega) (by omega),bs,cs,←e2,a7]) (by
   by_cases g:out.length≤q
   ·rw[if_pos g,if_pos g]
    unfold zIC;simp only
    rw[xR,zK]
   ·rw[if_neg g,if_neg g]
    unfold zIC;simp only
    rw[xR,zK])
 rw[if_pos (L7 _),show((0:Nat):Int)=0 from rfl,show mkR 0 (sU p n out u k q)=[]from rfl]at this;rw[this,bs]
 by_cases g:out.length≤q
 ·have e1:sU p n out u k q out.length=u:=by unfold sU;rw[if_neg (by omega),if_pos (by omega)]
  rw[if_pos g];simp only
  rw[Kq,zM,yE (by rw[sP];simp;omega),bs]
  congr 1
  rw[←a7,e1]
 ·rw[if_neg g]
  simp only
  rw[Kc,zK]
end
end Go.Pl
