/- The program's ComplementAt returns what the reference's returns,for all arguments;no conditions. -/
import Derived.Test.YtibamokcnfffhaaGreatAbB
import Derived.Test.YtibamokcnfffhaaGreatWF
open List renaming replicate→J1,getD_eq_getElem?_getD→J3,getElem?_eq_getElem→J5,length_append→J7,append_assoc→J9,getElem?_append_right→Ja,replicate_append_replicate→Jb,mem_map→Je,append_nil→Jf,getElem?_eq_some_iff→Jg,length_map→Jj,range→Jk,length_cons→Jl,take_succ_eq_append_getElem→Jm,map_cons→Jn,getElem?_map→Jo,mem_cons→Jp,take_of_length_le→Jq,getElem?_replicate→Js,mem_append→Jt,getElem?_append_left→Jv,nil_append→Jw,getElem_mem→Jx,length_replicate→Jy,mem_iff_getElem→K1,replicate_succ→K6,take_left'→K7,getElem?_append→K8,ext_getElem?→Kd,take_succ_cons→Ke,set_cons_zero→Kj,take_zero→Ko,singleton_append→Kt,mem_range→Ku,range_succ→Kv,drop_eq_getElem_cons→Kx,cons_append→Kz,length_take→L6,map_append→Ld,replicate_zero→Lf,getElem?_drop→Ln,drop_replicate→Lo,set_append_right→Lx,drop_of_length_le→H6,range'_succ→He,length_nil→Hu,range'→Hy,replicate_succ'→G9,getD_cons_zero→Gv,take_length→Gy,mem_flatMap→Gz,map_nil→U0,length_range→U7,length→Uf,map_map→Uh,getElem?_cons_zero→Uk,length_drop→Us,suffix_cons_iff→Q6,findSome?_cons→Qe,range_succ_eq_map→Qi,drop_zero→Qk,take_append_drop→Qq,foldl_append→Qr,drop_append→Ja1,all_cons→Ja2,map_congr_left→Ja7,getElem?_cons_succ→Ja8,getElem?_set→Jaf,getElem?_set_ne→Jb4,flatMap_append→Jc5
open Bool renaming and_eq_true→J2,not_true→Jc,not_false→K2
open Nat renaming zero_add→J6,le_refl→Jh,sub_self→Ka,lt_or_ge→Kb,zero_le→Kn,le_trans→Lv,add_assoc→H0,succ_mul→H3,strongRecOn→U9,min_eq_left→Ur,add_zero→Qy,zero_sub→Jc2,sub_zero→Jc3,lt_trichotomy→Jc4
open Int renaming toNat_natCast→Jd,emod_eq_of_lt→Jr,mul_le_mul→Ks,zero_add→Ky,emod_lt_of_pos→L8,tmod_eq_emod_of_nonneg→Li,add_zero→Lp,emod_emod→Lt,emod_nonneg→Lw,mul_le_mul_of_nonneg_left→H4,mul_one→Hf,toNat_zero→Hg,mul_emod→Ho,natCast_add→Hx,mul_nonneg→Ga,sub_emod_right→Gi,emod_add_emod→Gw,add_emod_right→U8,add_emod→Ue,one_mul→Ul,dvd_of_emod_eq_zero→Uu,tmod_add_mul_tdiv→Qb,emod_self→Qn,tmod_lt_of_pos→Qs,lt_tmod_of_pos→Qt,zero_mul→Ja3,mul_zero→Ja4,tmod→Jag,add_emod_emod→Jc6,mul_add→Jca,add_mul→Jcb
open Option renaming map_eq_some_iff→Jz,map_some→Hc,some→U4,isSome_iff_exists→Uc,getD_some→Qw
open Option renaming some→ud,none→ue
open Bool renaming true→uf,false→ug
namespace Go.Pc
abbrev Vec:=List Int
structure Lvl where
 o:Int
 w:Vec
 cs:List Vec
abbrev Pcp:=List Lvl
def zeros(n:Nat):Vec:=J1 n 0
def iter{α:Type}:Nat→(α→α)→α→α
 |0,_,x=>x
 |n+1,f,x=>iter n f (f x)
theorem wN{α:Type}(f:α→α):∀(n:Nat)(x:α),iter (n+1) f x=f (iter n f x)
 |0,_=>rfl
 |n+1,x=>by rw[iter,wN f n (f x)];rfl
theorem zDx{α:Type}(f:α→α)(a:Nat):∀(b:Nat)(x:α),iter (a+b) f x=iter a f (iter b f x)
 |0,_=>rfl
 |b+1,x=>by show iter (a+b) f (f x)=_;rw[zDx f a b (f x)];rfl
def img{α:Type}(m:α→α→α):List α→Vec→α→α
 |c::cs,x::xs,acc=>img m cs xs (iter x.toNat (fun v=>m v c) acc)
 |_,_,acc=>acc
def V:Pcp→Vec→Prop
 | [],v=>v=[]
 |l::P,v=>match v with
  | []=>False
  |a::x=>(0≤a∧a<l.o)∧V P x
def mul:Pcp→Vec→Vec→Vec
 |l::P,a::x,b::y=>
  let r:=mul P (iter b.toNat (fun v=>img (mul P) l.cs v (zeros P.length)) x) y
  if a+b≥l.o then(a+b-l.o)::mul P l.w r else(a+b)::r
 |_,_,_=>[]
def Ok:Pcp→Prop
 | []=>True
 |l::P=>1<l.o∧V P l.w∧l.cs.length=P.length∧(∀c∈l.cs,V P c)∧Ok P
structure Mon {α:Type} (S:α→Prop) (m:α→α→α) (e:α):Prop where
 cl:∀{a b},S a→S b→S (m a b)
 ein:S e
 assoc:∀{a b c},S a→S b→S c→m (m a b) c=m a (m b c)
 onel:∀{a},S a→m e a=a
 oner:∀{a},S a→m a e=a
structure Grp {α:Type} (S:α→Prop) (m:α→α→α) (e:α):Prop extends Mon S m e where
 inv:∀{a},S a→ ∃b,S b∧m a b=e
theorem Grp.invl{α:Type}{S:α→Prop}{m:α→α→α}{e:α}(h:Grp S m e){a:α}(ha:S a):∃b,S b∧m a b=e∧m b a=e:=by
 obtain⟨b,hb,h1⟩:=h.inv ha;obtain⟨c,hc,h2⟩:=h.inv hb;refine⟨b,hb,h1,?_⟩;have:a=c:=by rw[←h.oner ha,←h2,←h.assoc ha hb hc,h1,h.onel hc]
 grind
theorem Grp.cancel_l{α:Type}{S:α→Prop}{m:α→α→α}{e:α}(h:Grp S m e){a b c:α}(ha:S a)(hb:S b)(hc:S c)(hh:m a b=m a c):b=c:=by obtain⟨d,hd,_,h2⟩:=h.invl ha;rw[←h.onel hb,←h.onel hc,←h2,h.assoc hd ha hb,h.assoc hd ha hc,hh]
section
variable {α:Type}{S:α→Prop}{m:α→α→α}{e:α}
def pw(m:α→α→α)(e:α)(x:α)(k:Nat):α:=iter k (fun v=>m v x) e
theorem wU(h:Mon S m e){x:α}(hx:S x):∀k,S (pw m e x k)
 |0=>h.ein
 |k+1=>by rw[pw,wN];exact h.cl (wU h hx k) hx
theorem vB{f:α→α}(hf:∀a,S a→S (f a)):∀(k:Nat){x:α},S x→S (iter k f x)
 |0,_,hx=>hx
 |k+1,_,hx=>vB hf k (hf _ hx)
theorem zDy(h:Mon S m e){x a:α}(hx:S x)(ha:S a):∀k,iter k (fun v=>m v x) a=m a (pw m e x k)
 |0=>(h.oner ha).symm
 |k+1=>by rw[wN,zDy h hx ha k];show _=m a (iter (k+1) (fun v=>m v x) e);rw[wN];exact h.assoc ha (wU h hx k) hx
theorem zAt(h:Mon S m e){x:α}(hx:S x)(a b:Nat):pw m e x (a+b)=m (pw m e x a) (pw m e x b):=by rw[Nat.add_comm,pw,zDx,←zDy h hx (wU h hx a) b];rfl
theorem zIk(h:Mon S m e){x:α}(hx:S x):pw m e x 1=x:=h.onel hx
theorem zPr(h:Mon S m e){x:α}(hx:S x)(k:Nat):pw m e x (k+1)=m x (pw m e x k):=by rw[Nat.add_comm,zAt h hx 1 k,zIk h hx]
theorem tZ(h:∀{a b},S a→S b→S (m a b)):∀(cs:List α)(x:Vec){a:α},(∀c∈cs,S c)→S a→S (img m cs x a)
 |c::cs,x::xs,_,hc,ha=>by simp only[img];exact tZ h cs xs (by grind) (vB (by simp_all) _ ha)
 | [],_,_,_,ha=>by grind[img]
 |_::_,[],_,_,ha=>by grind[img]
theorem zEf(h:Mon S m e)(cs:List α)(x:Vec){a:α}(hc:∀c∈cs,S c)(ha:S a):S (img m cs x a):=tZ h.cl cs x hc ha
theorem zDz(h:Mon S m e):∀(cs:List α)(x:Vec){a:α},(∀c∈cs,S c)→S a→img m cs x a=m a (img m cs x e)
 |c::cs,x::xs,a,hc,ha=>by
  have h1:S c:=hc c (by simp);have h2:∀c∈cs,S c:=by grind
  simp only[img];rw[zDy h h1 ha,zDz h cs xs h2 (h.cl ha (wU h h1 _)),zDy h h1 h.ein,zDz h cs xs h2 (h.cl h.ein (wU h h1 _)),h.onel (wU h h1 _),
   h.assoc ha (wU h h1 _) (zEf h cs xs h2 h.ein)]
 | [],_,a,_,ha=>by simp[img,h.oner ha]
 |_::_,[],a,_,ha=>by simp[img,h.oner ha]
theorem tW(h:Mon S m e){c:α}{cs:List α}{x:Int}{xs:Vec}(hc:S c)(gK:∀c∈cs,S c):img m (c::cs) (x::xs) e=m (pw m e c x.toNat) (img m cs xs e):=by simp only[img];rw[zDz h cs xs gK (vB (fun a ha=>h.cl ha hc) _ h.ein)];rfl
theorem kD(m:α→α→α):∀(cs:List α)(n:Nat)(a:α),img m cs (zeros n) a=a
 | [],_,_=>by simp[img]
 |_::_,0,_=>by rfl
 |c::cs,n+1,a=>by simp only[zeros,K6,img,Hg,iter];exact kD m cs n a
theorem zFN(h:Mon S m e){g:α}(hg:S g):∀(cs ds:List α)(x:Vec),(∀c∈cs,S c)→(∀c∈ds,S c)→cs.length=ds.length→(∀(k:Nat) c d,cs[k]? =ud c→ds[k]? =ud d→m c g=m g d)→m (img m cs x e) g=m g (img m ds x e)
 | [],[],x,_,_,_,_=>by simp[img,h.onel hg,h.oner hg]
 |c::cs,d::ds,[],_,_,_,_=>by simp[img,h.onel hg,h.oner hg]
 |c::cs,d::ds,x::xs,hc,hd,hl,hp=>by
  have eJ:S c:=hc c (by simp);have hd0:S d:=hd d (by simp);have gK:∀c∈cs,S c:=by grind
  have pj:∀c∈ds,S c:=by grind
  have key:∀k,m (pw m e c k) g=m g (pw m e d k):=by
   intro k
   induction k with
   |zero=>simp[pw,iter,h.onel hg,h.oner hg]
   |succ k ih=>
    have h0:m c g=m g d:=hp 0 c d rfl rfl;rw[pw,wN,pw,wN];show m (m (pw m e c k) c) g=m g (m (pw m e d k) d);rw[h.assoc (wU h eJ k) eJ hg,h0,←h.assoc (wU h eJ k) hg hd0,ih,h.assoc hg (wU h hd0 k) hd0]
  rw[tW h eJ gK,tW h hd0 pj,h.assoc (wU h eJ _) (zEf h _ _ gK h.ein) hg,zFN h hg cs ds xs gK pj (by grind) (fun k c d h1 h2=>hp (k+1) c d (by grind) (by grind)),
   ←h.assoc (wU h eJ _) hg (zEf h _ _ pj h.ein),key,h.assoc hg (wU h hd0 _) (zEf h _ _ pj h.ein)]
theorem zM9{β:Type}{T:β→Prop}{n:β→β→β}{f:β}(h:Mon S m e)(h':Mon T n f)(φ:α→β)(gW:∀a,S a→T (φ a))(h1:φ e=f)(hm:∀a b,S a→S b→φ (m a b)=n (φ a) (φ b)):∀(cs:List α)(x:Vec),(∀c∈cs,S c)→φ (img m cs x e)=img n (cs.map φ) x f
 | [],_,_=>by simp[img,h1]
 |c::cs,[],_=>by simp[img,h1]
 |c::cs,x::xs,hc=>by
  have eJ:S c:=hc c (by simp);have gK:∀c∈cs,S c:=by grind
  have key:∀k,φ (pw m e c k)=pw n f (φ c) k:=by
   intro k
   induction k with
   |zero=>grind[pw,iter]
   |succ k ih=>
    grind[pw,wN,wU]
  rw[tW h eJ gK,Jn,tW h' (gW c eJ) (by simp_all),hm _ _ (wU h eJ _) (zEf h _ _ gK h.ein),key,zM9 h h' φ gW h1 hm cs xs gK]
end
theorem wD:∀{P:Pcp},Ok P→V P (zeros P.length)
 | [],_=>rfl
 |l::P,h=>by simp only[Ok]at h;simp only[Jl,zeros,K6,V];exact⟨by omega,wD h.2.2.2.2⟩
theorem xE:∀{P:Pcp},Ok P→ ∀{x y:Vec},V P x→V P y→V P (mul P x y)
 | [],_,_,_,hx,hy=>by rfl
 |l::P,h,[],_,hx,_=>by grind[V]
 |l::P,h,_::_,[],_,hy=>by grind[V]
 |l::P,h,a::x,b::y,hx,hy=>by
  simp only[Ok]at h;simp only[V]at hx hy;have h1:∀v,V P v→V P (img (mul P) l.cs v (zeros P.length)):=fun v hv=>tZ (xE h.2.2.2.2) l.cs v h.2.2.2.1 (wD h.2.2.2.2)
  have h2:=xE h.2.2.2.2 (vB h1 b.toNat hx.2) hy.2;simp only[mul];split
  ·exact⟨by omega,xE h.2.2.2.2 h.2.1 h2⟩
  ·exact⟨by omega,h2⟩
def Rel{α:Type}(m:α→α→α)(e:α):Pcp→List α→Prop
 | [],s=>s=[]
 |l::P,s=>match s with
  | []=>False
  |g::s=>pw m e g l.o.toNat=img m s l.w e∧(∀(k:Nat) c d,s[k]? =ud c→l.cs[k]? =ud d→m c g=m g (img m s d e))∧Rel m e P s
section
variable {α:Type}{S:α→Prop}{m:α→α→α}{e:α}
theorem zW1(h:Mon S m e):∀(P:Pcp)(s:List α),Ok P→(∀g∈s,S g)→Rel m e P s→ ∀x y,V P x→V P y→img m s (mul P x y) e=m (img m s x e) (img m s y e)
 | [],s,_,_,hr,x,y,hx,hy=>by simp only[Rel]at hr;subst hr;simp[img,h.onel h.ein]
 |l::P,[],_,_,hr,_,_,_,_=>by grind[Rel]
 |l::P,g::s,_,_,_,[],_,hx,_=>by grind[V]
 |l::P,g::s,_,_,_,_::_,[],_,hy=>by grind[V]
 |l::P,g::s,hk,hs,hr,a::x,b::y,hx,hy=>by
  simp only[Ok]at hk;simp only[Rel]at hr;simp only[V]at hx hy;obtain⟨ho,hw,gI,gK,aw⟩:=hk;obtain⟨gJ,gR,ee⟩:=hr;have hg:S g:=hs g (by simp);have pz:∀c∈s,S c:=by grind
  have gg:s.length=P.length:=by
   clear gJ gR hx hy hw gI gK hs pz
   induction P generalizing s with
   |nil=>grind[Rel]
   |cons l P ih=>
    cases s with
    |nil=>grind[Rel]
    |cons c s=>grind[Rel,Ok]
  have ih:=zW1 h P s aw pz ee;have hφ:∀v,S (img m s v e):=fun v=>zEf h s v pz h.ein
  have hmP:∀{a b},V P a→V P b→V P (mul P a b):=xE aw;have bw:∀v,V P v→V P (img (mul P) l.cs v (zeros P.length)):=fun v hv=>tZ hmP l.cs v gK (wD aw)
  have hσ:∀v,V P v→m (img m s v e) g=m g (img m s (img (mul P) l.cs v (zeros P.length)) e):=by
   intro v hv;have key:∀(cs:List Vec)(v:Vec)(acc:Vec),(∀c∈cs,V P c)→V P acc→img m s (img (mul P) cs v acc) e=img m (cs.map fun c=>img m s c e) v (img m s acc e):=by
    intro cs
    induction cs with
    |nil=>grind[img]
    |cons c cs ihc=>
     intro v acc hc hacc;cases v with
     |nil=>simp[img]
     |cons z v=>
      have eJ:V P c:=hc c (by simp);have it:∀k acc,V P acc→img m s (iter k (fun v=>mul P v c) acc) e=iter k (fun v=>m v (img m s c e)) (img m s acc e):=by
       intro k
       induction k with
       |zero=>intro acc _;rfl
       |succ k ihk=>
        simp_all[iter]
      simp only[img,Jn];rw[ihc v _ (by simp_all) (vB (by grind) _ hacc),it _ _ hacc]
   rw[key l.cs v (zeros P.length) gK (wD aw),kD];refine zFN h hg s _ v pz (by simp_all) (by grind) ?_;intro k c d hc hd;simp only[Jo,Jz]at hd;obtain⟨d',cU,rfl⟩:=hd
   grind
  have hσk:∀k v,V P v→m (img m s v e) (pw m e g k)=m (pw m e g k) (img m s (iter k (fun v=>img (mul P) l.cs v (zeros P.length)) v) e):=by
   intro k
   induction k with
   |zero=>intro v _;simp[pw,iter,h.onel (hφ v),h.oner (hφ v)]
   |succ k ihk=>
    intro v hv;rw[zPr h hg,←h.assoc (hφ v) hg (wU h hg k),hσ v hv,h.assoc hg (hφ _) (wU h hg k),ihk _ (bw v hv),←h.assoc hg (wU h hg k) (hφ _)];rfl
  have eZ:=wU h hg a.toNat;have be:=wU h hg b.toNat;have er:V P (iter b.toNat (fun v=>img (mul P) l.cs v (zeros P.length)) x):=vB bw _ hx.2;have t6:m (img m (g::s) (a::x) e) (img m (g::s) (b::y) e)=m (pw m e g (a.toNat+b.toNat)) (img m s (mul P (iter b.toNat (fun v=>img (mul P) l.cs v (zeros P.length)) x) y) e):=by rw[tW h hg pz,tW h hg pz,h.assoc eZ (hφ x) (h.cl be (hφ y)),←h.assoc (hφ x) be (hφ y),hσk _ _ hx.2,h.assoc be (hφ _) (hφ y),←ih _ _ er hy.2,←h.assoc eZ be (hφ _),zAt h hg]
  rw[t6];simp only[mul];split
  ·rename_i hge
   rw[tW h hg pz,ih _ _ hw (hmP er hy.2),←gJ,←h.assoc (wU h hg _) (wU h hg _) (hφ _),←zAt h hg]
   congr 2
   omega
  ·rw[tW h hg pz]
   congr 2
   omega
end
def wI(n j:Nat):Vec:=(zeros n).set j 1
def sig(P:Pcp)(l:Lvl)(v:Vec):Vec:=img (mul P) l.cs v (zeros P.length)
def wE:Pcp→Prop
 | []=>True
 |l::P=>wE P∧Rel (mul P) (zeros P.length) P l.cs∧sig P l l.w=l.w∧ ∀j,j<P.length→mul P l.w (iter l.o.toNat (sig P l) (wI P.length j))=mul P (wI P.length j) l.w
theorem zHo(n:Nat):wI (n+1) 0=1::zeros n:=rfl
theorem zNv(n j:Nat):wI (n+1) (j+1)=0::wI n j:=rfl
def xU(n:Nat):List Vec:=(Jk n).map (wI n)
theorem zKS(n:Nat):xU (n+1)=(1::zeros n)::(xU n).map (0::·):=by
 simp only[xU,Qi,Jn,Uh,zHo]
 congr 1
theorem zCP:∀{P:Pcp},Ok P→ ∀{j:Nat},j<P.length→V P (wI P.length j)
 | [],_,_,hj=>by simp at hj
 |l::P,h,0,_=>by grind[Ok,zHo,V,wD]
 |l::P,h,j+1,hj=>by simp only[Ok]at h;rw[Jl,zNv];simp only[V];exact⟨by omega,zCP h.2.2.2.2 (by grind)⟩
theorem zCQ{l:Lvl}{P:Pcp}(h:Ok (l::P)){v:Vec}(_hv:V P v):V P (sig P l v):=by simp only[Ok]at h;exact tZ (xE h.2.2.2.2) l.cs v h.2.2.2.1 (wD h.2.2.2.2)
theorem yK(l:Lvl)(P:Pcp)(a b:Int)(x y:Vec):mul (l::P) (a::x) (b::y)=if a+b≥l.o then(a+b-l.o)::mul P l.w (mul P (iter b.toNat (sig P l) x) y)else(a+b)::mul P (iter b.toNat (sig P l) x) y:=rfl
theorem zNw{n k:Nat}{c:Vec}(h:(xU n)[k]? =ud c):k<n∧c=wI n k:=by
 simp only[xU,Jo,Jz]at h
 grind
theorem normal:∀(P:Pcp),Ok P→(∀Q,Q<:+P→Mon (V Q) (mul Q) (zeros Q.length))→ ∀x,V P x→img (mul P) (xU P.length) x (zeros P.length)=x
 | [],_,_,x,hx=>by grind[V,img,zeros]
 |l::P,_,_,[],hx=>by grind[V]
 |l::P,h,hM,a::x,hx=>by
  have hMl:=hM (l::P) (List.suffix_refl _);have hMP:=hM P (by simp);have h':=h;simp only[Ok]at h;simp only[V]at hx;rw[Jl,zKS];have hz:V P (zeros P.length):=wD h.2.2.2.2;have ai:V (l::P) (1::zeros P.length):=by grind[V]
  have fe:∀c∈(xU P.length).map (0::·),V (l::P) c:=by
   intro c hc;simp only[xU,Uh,Je,Ku]at hc;obtain⟨j,hj,rfl⟩:=hc;simp only[Function.comp,V]
   grind[zCP]
  have fM:V (l::P) (zeros (P.length+1)):=by grind[wD]
  rw[show zeros (P.length+1)=zeros (l::P).length from rfl];rw[tW hMl ai fe];have sz:∀k:Nat,iter k (sig P l) (zeros P.length)=zeros P.length:=by
   intro k
   induction k with
   |zero=>rfl
   |succ k ih=>grind[iter,sig,kD]
  have h1:∀k:Nat,(k:Int)<l.o→pw (mul (l::P)) (zeros (l::P).length) (1::zeros P.length) k=(k:Int)::zeros P.length:=by
   intro k
   induction k with
   |zero=>intro _;rfl
   |succ k ih=>
    intro hk;rw[pw,wN];show mul (l::P) (pw (mul (l::P)) (zeros (l::P).length) (1::zeros P.length) k) (1::zeros P.length)=_;rw[ih (by omega),yK,if_neg (by omega)];rw[sz,hMP.onel hz];rfl
  have h2:∀(cs:List Vec)(y acc:Vec),(∀c∈cs,V P c)→V P acc→img (mul (l::P)) (cs.map (0::·)) y (0::acc)=0::img (mul P) cs y acc:=by
   intro cs
   induction cs with
   |nil=>grind[img]
   |cons c cs ih=>
    intro y acc hc hacc;cases y with
    |nil=>simp[img]
    |cons z y=>
     have eJ:V P c:=hc c (by simp);have it:∀(k:Nat)(acc:Vec),V P acc→iter k (fun v=>mul (l::P) v (0::c)) (0::acc)=0::iter k (fun v=>mul P v c) acc:=by
      intro k
      induction k with
      |zero=>intro _ _;rfl
      |succ k ihk=>
       intro acc hacc;simp only[iter];rw[yK,if_neg (by omega)];exact ihk _ (xE h.2.2.2.2 hacc eJ)
     simp only[Jn,img];rw[it _ _ hacc,ih _ _ (by grind) (vB (by grind[xE]) _ hacc)]
  have cb:∀c∈xU P.length,V P c:=by
   intro c hc;simp only[xU,Je,Ku]at hc;obtain⟨j,hj,rfl⟩:=hc
   grind[zCP]
  rw[h1 a.toNat (by omega),show zeros (l::P).length=0::zeros P.length from rfl,h2 _ _ _ cb hz,normal P h.2.2.2.2 (by grind) x hx.2,yK,if_neg (by omega)];simp only[Hg,iter];rw[hMP.onel hx.2]
  grind
theorem zJ3:∀(P:Pcp),Ok P→wE P→Grp (V P) (mul P) (zeros P.length)
 | [],_,_=>by
  refine⟨⟨fun _ _=>rfl,rfl,fun _ _ _=>rfl,?_,?_⟩,fun ha=>⟨[],rfl,rfl⟩⟩<;>
  ·intro a ha
   simp only[V]at ha;subst ha;rfl
 |l::P,h,hc=>by
  have h':=h;simp only[Ok]at h;simp only[wE]at hc;obtain⟨ho,hw,gI,gK,hP⟩:=h;obtain⟨dS,mg,tj,tf⟩:=hc;have N:=zJ3 P hP dS;have hM:∀Q,Q<:+P→Mon (V Q) (mul Q) (zeros Q.length):=by
   intro Q hQ;obtain⟨t,ht⟩:=hQ;have:Ok Q∧wE Q:=by
    clear N hw gI gK mg tj tf h'
    induction t generalizing P with
    |nil=>grind
    |cons a t ih=>
     simp at ht;subst ht;simp only[Ok]at hP;simp only[wE]at dS
     grind
   have gT:SizeOf.sizeOf Q≤SizeOf.sizeOf P:=by
    rw[←ht]
    clear N hw gI gK mg tj tf h' hP dS ht this
    induction t with
    |nil=>simp
    |cons a t ih=>grind
   exact(zJ3 Q this.1 this.2).toMon
  have hz:V P (zeros P.length):=wD hP;have σin:∀v,V P v→V P (sig P l v):=by grind[zCQ]
  have σhom:∀x y,V P x→V P y→sig P l (mul P x y)=mul P (sig P l x) (sig P l y):=fun x y hx hy=>zW1 N.toMon P l.cs hP gK mg x y hx hy
  have σz:sig P l (zeros P.length)=zeros P.length:=kD _ _ _ _;have itin:∀(k:Nat) v,V P v→V P (iter k (sig P l) v):=fun k v hv=>vB σin k hv
  have ithom:∀(k:Nat) x y,V P x→V P y→iter k (sig P l) (mul P x y)=mul P (iter k (sig P l) x) (iter k (sig P l) y):=by
   intro k
   induction k with
   |zero=>intro _ _ _ _;rfl
   |succ k ih=>simp_all[iter]
  have itz:∀k:Nat,iter k (sig P l) (zeros P.length)=zeros P.length:=by
   intro k
   induction k with
   |zero=>rfl
   |succ k ih=>grind[iter]
  have itw:∀k:Nat,iter k (sig P l) l.w=l.w:=by
   intro k
   induction k with
   |zero=>rfl
   |succ k ih=>grind[iter]
  have cb:∀c∈xU P.length,V P c:=by
   intro c hc;simp only[xU,Je,Ku]at hc;obtain⟨j,hj,rfl⟩:=hc
   grind[zCP]
  have inner:∀x,V P x→mul P x l.w=mul P l.w (iter l.o.toNat (sig P l) x):=by
   intro x hx;have hnf:=normal P hP hM x hx;have cE:=zM9 N.toMon N.toMon (iter l.o.toNat (sig P l)) (by grind) (itz _) (by grind) (xU P.length) x cb;rw[←hnf,cE];refine zFN N.toMon hw _ _ x cb (by simp_all) (by simp) ?_;intro k c d hc hd;rw[Jo,Jz]at hd;obtain⟨c',pm,rfl⟩:=hd;rw[hc]at pm;simp at pm;subst pm;obtain⟨hk,rfl⟩:=zNw hc
   grind
  have e:∀(x y z:Vec)(b c:Int),V P x→V P y→V P z→0≤b→0≤c→
    mul P (iter c.toNat (sig P l) (mul P (iter b.toNat (sig P l) x) y)) z=mul P (iter (b+c).toNat (sig P l) x) (mul P (iter c.toNat (sig P l) y) z)∧
    mul P (iter c.toNat (sig P l) (mul P l.w (mul P (iter b.toNat (sig P l) x) y))) z=mul P l.w (mul P (iter (b+c).toNat (sig P l) x) (mul P (iter c.toNat (sig P l) y) z))∧
    (l.o≤b+c→mul P (iter (b+c-l.o).toNat (sig P l) x) (mul P l.w (mul P (iter c.toNat (sig P l) y) z))=mul P l.w (mul P (iter (b+c).toNat (sig P l) x) (mul P (iter c.toNat (sig P l) y) z))):=by
   intro x y z b c hx hy hz hb hcc;have dT:=itin b.toNat x hx;have hcy:=itin c.toNat y hy;have hbc:iter c.toNat (sig P l) (iter b.toNat (sig P l) x)=iter (b+c).toNat (sig P l) x:=by rw[←zDx];congr 1;omega
   have dW:=itin (b+c).toNat x hx;have e1:mul P (iter c.toNat (sig P l) (mul P (iter b.toNat (sig P l) x) y)) z=mul P (iter (b+c).toNat (sig P l) x) (mul P (iter c.toNat (sig P l) y) z):=by rw[ithom _ _ _ dT hy,hbc,N.assoc dW hcy hz]
   refine⟨e1,?_,?_⟩
   ·rw[ithom _ _ _ hw (N.cl dT hy),itw,N.assoc hw (itin _ _ (N.cl dT hy)) hz,e1]
   ·intro hge
    have tn:=N.cl hcy hz;rw[←N.assoc (itin _ x hx) hw tn,inner _ (itin _ x hx),←zDx,N.assoc hw (itin _ x hx) tn]
    congr 3
    omega
  refine⟨⟨by grind[xE],wD h',?_,?_,?_⟩,?_⟩
  ·intro A B C hA hB hC
   match A,B,C,hA,hB,hC with
   |a::x,b::y,c::z,hA,hB,hC=>
    simp only[V]at hA hB hC;obtain⟨e1,e2,e3⟩:=e x y z b c hA.2 hB.2 hC.2 hB.1.1 hC.1.1
    by_cases c1:a+b≥l.o<;>by_cases c2:b+c≥l.o
    ·rw[yK,if_pos c1,yK l P b c,if_pos c2,yK,yK,e2,e3 c2]
     grind
    ·rw[yK,if_pos c1,yK l P b c,if_neg c2,yK,yK,e2,if_neg (by omega),if_pos (by omega)]
     grind
    ·rw[yK,if_neg c1,yK l P b c,if_pos c2,yK,yK,e1,e3 c2,if_pos (by omega),if_neg (by omega)]
     grind
    ·rw[yK,if_neg c1,yK l P b c,if_neg c2,yK,yK,e1]
     grind
  ·intro A hA
   match A,hA with
   |a::x,hA=>
    simp only[V]at hA;show mul (l::P) (0::zeros P.length) (a::x)=_;rw[yK,if_neg (by omega),itz,N.onel hA.2,Ky]
  ·intro A hA
   match A,hA with
   |a::x,hA=>
    simp only[V]at hA;show mul (l::P) (a::x) (0::zeros P.length)=_;rw[yK,if_neg (by omega)];simp only[Hg,iter];rw[N.oner hA.2,Lp]
  ·intro A hA
   match A,hA with
   |a::x,hA=>
    simp only[V]at hA
    by_cases ha:a=0
    ·obtain⟨y,hy,h1⟩:=N.inv hA.2
     refine⟨0::y,by simp only[V];grind,?_⟩;rw[yK,if_neg (by omega)];simp only[Hg,iter];rw[h1,ha];rfl
    ·have bB:=itin (l.o-a).toNat x hA.2
     obtain⟨y,hy,h1⟩:=N.inv (N.cl hw bB);refine⟨(l.o-a)::y,by simp only[V];grind,?_⟩;rw[yK,if_pos (by omega),←N.assoc hw bB hy,h1,show a+(l.o-a)-l.o=0 by omega];rfl
termination_by P=>P
end Go.Pc

namespace Go.Pc
structure Fil {α:Type} (S:α→Prop) (m:α→α→α) (e:α) (n:Nat) (o:Nat→Int) (co:α→Nat→Int):Prop where
 g:Grp S m e
 r:∀{a d},S a→d<n→0≤co a d∧co a d<o d
 e0:∀{d},d<n→co e d=0
 ex:∀{a b},S a→S b→(∀d,d<n→co a d=co b d)→a=b
 ad:∀{a b d},S a→S b→d<n→(∀j,j<d→co b j=0)→(∀j,j<d→co (m a b) j=co a j)∧co (m a b) d=(co a d+co b d)%o d
inductive Gen {α:Type} (S:α→Prop) (m:α→α→α) (e:α) (X:α→Prop):α→Prop
 |one:Gen S m e X e
 |x {a}:X a→Gen S m e X a
 |m {a b}:Gen S m e X a→Gen S m e X b→Gen S m e X (m a b)
 |i {a b}:Gen S m e X a→S b→m a b=e→Gen S m e X b
section
variable {α:Type}{S:α→Prop}{m:α→α→α}{e:α}{X Y:α→Prop}
theorem Gen.to(h:∀a,X a→Gen S m e Y a){a:α}(ha:Gen S m e X a):Gen S m e Y a:=by
 induction ha with
 |one=>exact .one
 |x hx=>exact h _ hx
 |m _ _ h1 h2=>exact .m h1 h2
 |i _ hb hh h1=>exact .i h1 hb hh
theorem Gen.mono(h:∀a,X a→Y a){a:α}(ha:Gen S m e X a):Gen S m e Y a:=ha.to fun _ h'=>.x (h _ h')
theorem Gen.pw{a:α}(ha:Gen S m e X a):∀k,Gen S m e X (pw m e a k)
 |0=>.one
 |k+1=>by rw[Pc.pw,wN];exact .m (ha.pw k) ha
variable (g:Grp S m e)
 include g
theorem Gen.in(hX:∀a,X a→S a){a:α}(ha:Gen S m e X a):S a:=by
 induction ha with
 |one=>exact g.ein
 |x hx=>exact hX _ hx
 |m _ _ h1 h2=>exact g.cl h1 h2
 |i _ hb _ _=>exact hb
theorem Grp.inv_l{a b:α}(ha:S a)(hb:S b)(h:m a b=e):m b a=e:=by obtain⟨c,hc,h1,h2⟩:=g.invl ha;rw[show b=c from g.cancel_l ha hb hc (h.trans h1.symm)];exact h2
theorem Gen.left(hX:∀a,X a→S a){a b:α}(ha:S a)(hb:Gen S m e X b)(h:Gen S m e X (m a b)):Gen S m e X a:=by
 have hbs:=hb.in g hX;obtain⟨c,hc,h1,_⟩:=g.invl hbs;have:=Gen.m h (.i hb hc h1)
 rwa [g.assoc ha hbs hc,h1,g.oner ha]at this
theorem Gen.right(hX:∀a,X a→S a){a b:α}(ha:Gen S m e X a)(hb:S b)(h:Gen S m e X (m a b)):Gen S m e X b:=by
 have has:=ha.in g hX;obtain⟨c,hc,h1,h2⟩:=g.invl has;have:=Gen.m (.i ha hc h1) h
 rwa [←g.assoc hc has hb,h2,g.onel hb]at this
end
section
variable {α:Type}{S:α→Prop}{m:α→α→α}{e:α}{n:Nat}{o:Nat→Int}{co:α→Nat→Int} (F:Fil S m e n o co)
 include F
theorem Fil.dm{a b:α}{d:Nat}(hd:d≤n)(ha:S a)(hb:S b)(za:∀j,j<d→co a j=0)(zb:∀j,j<d→co b j=0):∀j,j<d→co (m a b) j=0:=fun j hj=>by have h:=(F.ad ha hb (by omega:j<n) fun i hi=>zb i (by omega)).2;rw[h,za j hj,zb j hj];simp
theorem Fil.md{x:Int}{d:Nat}(hd:d<n){a:α}(ha:S a)(h:co a d=x):x%o d=x:=by have:=F.r ha hd;rw[←h];exact Jr this.1 this.2
theorem Fil.pwc{t:α}{d:Nat}(hd:d<n)(ht:S t)(zt:∀j,j<d→co t j=0):∀k,(∀j,j<d→co (pw m e t k) j=0)∧co (pw m e t k) d=(k*co t d)%o d
 |0=>⟨fun j hj=>F.e0 (by omega),by rw[pw,iter,F.e0 hd];simp⟩
 |k+1=>by
  have ih:=Fil.pwc hd ht zt k;have hp:=wU F.g.toMon ht k;have e1:pw m e t (k+1)=m (pw m e t k) t:=by rw[pw,wN];rfl
  have h:=F.ad hp ht hd zt;rw[e1];refine⟨fun j hj=>(h.1 j hj).trans (ih.1 j hj),?_⟩;rw[h.2,ih.2,Gw]
  congr 1
  rw[Int.natCast_succ,Jcb,Ul]
theorem Fil.cmd{a b w:α}{k:Nat}(hk:k<n)(ha:S a)(hb:S b)(hw:S w)(za:∀j,j<k→co a j=0)(zb:∀j,j<k+1→co b j=0)(h:m (m b a) w=m a b∨m (m a b) w=m b a):∀j,j<k+1→co w j=0:=by
 have e1:∀j,j<k+1→co (m b a) j=co a j:=fun j hj=>by have h:=(F.ad hb ha (by omega:j<n) fun i hi=>za i (by omega)).2;rw[h,zb j hj,Ky];exact F.md (by omega) ha rfl
 have e2:∀j,j<k+1→co (m a b) j=co a j:=fun j hj=>by have h:=(F.ad ha hb (by omega:j<n) fun i hi=>zb i (by omega)).2;rw[h,zb j hj,Lp];exact F.md (by omega) ha rfl
 intro j
 induction j using U9 with
 |ind j ih=>
  intro hj;have fZ:j<n:=by omega
  have hr:=F.r ha fZ;have mY:=F.r hw fZ;have key:(co a j+co w j)%o j=co a j:=by
   rcases h with h|h
   ·have h1:=(F.ad (F.g.cl hb ha) hw fZ fun i hi=>ih i hi (by omega)).2
    rw[h,e2 j hj,e1 j hj]at h1;exact h1.symm
   ·have h1:=(F.ad (F.g.cl ha hb) hw fZ fun i hi=>ih i hi (by omega)).2
    rw[h,e1 j hj,e2 j hj]at h1;exact h1.symm
  by_cases g:co a j+co w j<o j
  ·rw[Jr (by omega) g]at key;omega
  ·rw[←Gi,Jr (by omega) (by omega)]at key;omega
structure Tab (S:α→Prop) (n:Nat) (co:α→Nat→Int) (T:Nat→Option α):Prop where
 h:∀{k t},T k=ud t→k<n∧S t∧(∀j,j<k→co t j=0)∧co t k=1
def GX(n:Nat)(co:α→Nat→Int)(T:Nat→Option α)(Q:List α)(k:Nat)(a:α):Prop:=(∃j,k≤j∧T j=ud a)∨(a∈Q∧ ∀j,j<k→j<n→co a j=0)
 omit F in
theorem GX.s{T:Nat→Option α}{Q:List α}(hT:Tab S n co T)(hQ:∀a∈Q,S a){k:Nat}:∀a,GX n co T Q k a→S a
  |_,.inl ⟨_,_,h⟩=>(hT.h h).2.1
  |a,.inr h=>hQ a h.1
section
variable {T:Nat→Option α} (hT:Tab S n co T)
structure Clo (S:α→Prop) (m:α→α→α) (e:α) (n:Nat) (o:Nat→Int) (co:α→Nat→Int) (T:Nat→Option α) (Q:List α):Prop where
 p:∀{k t},T k=ud t→Gen S m e (GX n co T Q (k+1)) (pw m e t (o k).toNat)
 c:∀{k j t u},T k=ud t→T j=ud u→k<j→ ∃c,Gen S m e (GX n co T Q (k+1)) c∧m u t=m t c
variable (hC:Clo S m e n o co T [])
 include hT hC
theorem Clo.conj{k:Nat}{t:α}(ht:T k=ud t){y:α}(hy:Gen S m e (GX n co T [] (k+1)) y):∃c,Gen S m e (GX n co T [] (k+1)) c∧m y t=m t c:=by
 have eo:=(hT.h ht).2.1;have hG:∀{a},Gen S m e (GX n co T [] (k+1)) a→S a:=fun h=>h.in F.g (GX.s hT (by simp))
 induction hy with
 |one=>exact⟨e,.one,by rw[F.g.onel eo,F.g.oner eo]⟩
 |x hx=>
  rcases hx with⟨j,h1,h2⟩|⟨h,_⟩
  ·exact hC.c ht h2 (by omega)
  ·simp at h
 | @m a b ga gb ha hb=>
  obtain⟨c,c1,c2⟩:=ha;obtain⟨d,d1,d2⟩:=hb;refine⟨m c d,.m c1 d1,?_⟩;rw[F.g.assoc (hG ga) (hG gb) eo,d2,←F.g.assoc (hG ga) eo (hG d1),c2,F.g.assoc eo (hG c1) (hG d1)]
 | @i a b ga hb hh ha=>
  obtain⟨c,c1,c2⟩:=ha;obtain⟨d,d1,d2,_⟩:=F.g.invl (hG c1);have hl:=F.g.inv_l (hG ga) hb hh;refine⟨d,.i c1 d1 d2,F.g.cancel_l (hG ga) (F.g.cl hb eo) (F.g.cl eo d1) ?_⟩;rw[←F.g.assoc (hG ga) hb eo,hh,F.g.onel eo,←F.g.assoc (hG ga) eo d1,c2,F.g.assoc eo (hG c1) d1,d2,F.g.oner eo]
theorem Clo.conjs{k:Nat}{t:α}(ht:T k=ud t):∀(a:Nat){y:α},Gen S m e (GX n co T [] (k+1)) y→ ∃c,Gen S m e (GX n co T [] (k+1)) c∧m y (pw m e t a)=m (pw m e t a) c
 |0,y,hy=>⟨y,hy,by have:=hy.in F.g (GX.s hT (by simp));show m y e=m e y;rw[F.g.onel this,F.g.oner this]⟩
 |a+1,y,hy=>by
  have hG:∀{a},Gen S m e (GX n co T [] (k+1)) a→S a:=fun h=>h.in F.g (GX.s hT (by simp))
  have eo:=(hT.h ht).2.1;obtain⟨c,c1,c2⟩:=Clo.conjs ht a hy;obtain⟨d,d1,d2⟩:=Clo.conj F hT hC ht c1;have hp:=wU F.g.toMon eo a;refine⟨d,d1,?_⟩;rw[show pw m e t (a+1)=m (pw m e t a) t from by rw[pw,wN];rfl,←F.g.assoc (hG hy) hp eo,c2,F.g.assoc hp (hG c1) eo,d2,F.g.assoc hp eo (hG d1)]
theorem Clo.pws{k:Nat}{t:α}(ht:T k=ud t):∀N:Nat,Gen S m e (GX n co T [] (k+1)) (pw m e t (N*(o k).toNat))
 |0=>by rw[Nat.zero_mul];exact .one
 |N+1=>by rw[H3,zAt F.g.toMon (hT.h ht).2.1];exact .m (Clo.pws ht N) (hC.p ht)
theorem Clo.form{k:Nat}{t:α}(ht:T k=ud t){x:α}(hx:Gen S m e (GX n co T [] k) x):∃(a:Nat)(y:α),Gen S m e (GX n co T [] (k+1)) y∧x=m (pw m e t a) y:=by
 have eo:=(hT.h ht).2.1;have hG:∀{j a},Gen S m e (GX n co T [] j) a→S a:=fun h=>h.in F.g (GX.s hT (by simp))
 have hP:=fun a=>wU F.g.toMon eo a
 induction hx with
 |one=>exact⟨0,e,.one,(F.g.onel F.g.ein).symm⟩
 | @x a hx=>
  rcases hx with⟨j,h1,h2⟩|⟨h,_⟩
  ·by_cases hj:j=k
   ·subst hj
    rw[ht]at h2;cases h2;exact⟨1,e,.one,by rw[zIk F.g.toMon eo,F.g.oner eo]⟩
   ·exact⟨0,a,.x (.inl ⟨j,by omega,h2⟩),(F.g.onel (hT.h h2).2.1).symm⟩
  ·simp at h
 | @m a b _ _ ha hb=>
  obtain⟨i,y,hy,rfl⟩:=ha;obtain⟨j,z,hz,rfl⟩:=hb;obtain⟨c,c1,c2⟩:=Clo.conjs F hT hC ht j hy;refine⟨i+j,m c z,.m c1 hz,?_⟩;rw[zAt F.g.toMon eo,F.g.assoc (hP i) (hG hy) (F.g.cl (hP j) (hG hz)),←F.g.assoc (hG hy) (hP j) (hG hz),c2,F.g.assoc (hP j) (hG c1) (hG hz),F.g.assoc (hP i) (hP j) (F.g.cl (hG c1) (hG hz))]
 | @i a b ga hb hh ha=>
  obtain⟨i,y,hy,rfl⟩:=ha;obtain⟨y',y1,y2,_⟩:=F.g.invl (hG hy);have ho:1≤(o k).toNat:=by have:=F.r eo (hT.h ht).1;omega
  have fK:i≤i*(o k).toNat:=Nat.le_mul_of_pos_right i ho;have e1:i*(o k).toNat=i+(i*(o k).toNat-i):=by omega
  have hw:=Clo.pws F hT hC ht i;obtain⟨w,w1,w2,_⟩:=F.g.invl (hG hw);obtain⟨c,c1,c2⟩:=Clo.conjs F hT hC ht (i*(o k).toNat-i) (.i hy y1 y2);refine⟨i*(o k).toNat-i,m c w,.m c1 (.i hw w1 w2),?_⟩;refine F.g.cancel_l (F.g.cl (hP i) (hG hy)) hb (F.g.cl (hP _) (F.g.cl (hG c1) w1)) ?_;rw[hh,←F.g.assoc (hP _) (hG c1) w1,←c2,F.g.assoc y1 (hP _) w1,F.g.assoc (hP i) (hG hy) (F.g.cl y1 (F.g.cl (hP _) w1)),←F.g.assoc (hG hy) y1 (F.g.cl (hP _) w1),y2,F.g.onel (F.g.cl (hP _) w1),←F.g.assoc (hP i) (hP _) w1,←zAt F.g.toMon eo,←e1,w2]
theorem Clo.depth:∀(l k:Nat),k+l=n→ ∀{x:α},Gen S m e (GX n co T [] k) x→(∀j,j<k→co x j=0)→x≠e→ ∃j,k≤j∧j<n∧(T j).isSome=uf∧(∀i,i<j→co x i=0)∧co x j≠0
 |0,k,hk,x,hx,hz,gj=>by
  have hG:∀{j a},Gen S m e (GX n co T [] j) a→S a:=fun h=>h.in F.g (GX.s hT (by simp))
  exact absurd (F.ex (hG hx) F.g.ein fun d hd=>by rw[hz d (by omega),F.e0 hd]) gj
 |l+1,k,hk,x,hx,hz,gj=>by
  have hG:∀{j a},Gen S m e (GX n co T [] j) a→S a:=fun h=>h.in F.g (GX.s hT (by simp))
  have av:k<n:=by omega
  have deep:∀{y},Gen S m e (GX n co T [] (k+1)) y→ ∀j,j<k+1→co y j=0:=fun{y} hy=>by
   induction hy with
   |one=>exact fun j hj=>F.e0 (by omega)
   |x hx=>
    rcases hx with⟨j,h1,h2⟩|⟨h,_⟩
    ·exact fun i hi=>(hT.h h2).2.2.1 i (by omega)
    ·simp at h
   |m ga gb ha hb=>exact F.dm (by omega) (hG ga) (hG gb) ha hb
   | @i a b ga hb hh ha=>
    intro j
    induction j using U9 with
    |ind j ih=>
     intro hj;have h1:=(F.ad (hG ga) hb (by omega:j<n) fun i hi=>ih i hi (by omega)).2;rw[hh,F.e0 (by omega),ha j hj,Ky]at h1;rw[←F.md (by omega) hb rfl];exact h1.symm
  have next:Gen S m e (GX n co T [] (k+1)) x→ ∃j,k≤j∧j<n∧(T j).isSome=uf∧(∀i,i<j→co x i=0)∧co x j≠0:=fun h=>by obtain⟨j,j1,j2⟩:=Clo.depth l (k+1) (by omega) h (deep h) gj;exact⟨j,by omega,j2⟩
  cases ht:T k with
  |none=>
   refine next (hx.mono fun a ha=>?_);rcases ha with⟨j,h1,h2⟩|⟨h,_⟩
   ·by_cases hj:j=k
    ·subst hj;rw[ht]at h2;cases h2
    ·exact .inl ⟨j,by omega,h2⟩
   ·simp at h
  |some t=>
   by_cases h0:co x k=0
   ·obtain⟨a,y,hy,rfl⟩:=Clo.form F hT hC ht hx
    have bL:=hT.h ht;have hp:=F.pwc av bL.2.1 bL.2.2.1 a;have h1:=(F.ad (wU F.g.toMon bL.2.1 a) (hG hy) av fun j hj=>deep hy j (by omega)).2;rw[h0,deep hy k (by omega),hp.2,bL.2.2.2,Lp,Hf,Lt]at h1;have ho:=F.r bL.2.1 av;have hd:(o k).toNat∣a:=by have:=Uu h1.symm;rw[show o k=((o k).toNat:Int)from by omega]at this;exact Int.natCast_dvd_natCast.1 this
    obtain⟨N,rfl⟩:=hd;rw[Nat.mul_comm]at next ⊢
    exact next (.m (Clo.pws F hT hC ht N) hy)
   ·exact⟨k,Jh _,av,by rw[ht];rfl,hz,h0⟩
end
structure Can (S:α→Prop) (n:Nat) (co:α→Nat→Int) (H:α→Prop) (C:Nat→Option α):Prop where
 i:∀{k t},C k=ud t→k<n∧H t∧S t∧(∀j,j<k→co t j=0)∧co t k=1∧ ∀j,k<j→j<n→(C j).isSome=uf→co t j=0
 d:∀{x},H x→x≠e→ ∃j,j<n∧(C j).isSome=uf∧(∀i,i<j→co x i=0)∧co x j≠0
theorem Can.uniq{H:α→Prop}(hm:∀{a b},H a→H b→H (m a b))(hi:∀{a b},H a→S b→m a b=e→H b){C D:Nat→Option α}(hC:Can (e:=e) S n co H C)(hD:Can (e:=e) S n co H D):∀k,C k=D k:=by
 have mM:∀{C D:Nat→Option α},Can (e:=e) S n co H C→Can (e:=e) S n co H D→ ∀k,(C k).isSome=uf→(D k).isSome=uf:=fun{C D} hC hD k hk=>by
  obtain⟨t,ht⟩:=Uc.1 hk;obtain⟨a1,a2,a3,a4,a5,_⟩:=hC.i ht;obtain⟨j,j1,j2,j3,j4⟩:=hD.d a2 fun h=>by rw[h,F.e0 a1]at a5;cases a5
  rcases Jc4 j k with h|h|h
  ·exact absurd (a4 j h) j4
  ·rwa [←h]
  ·have:=j3 k h;omega
 intro k;cases hc:C k with
 |none=>
  cases hd:D k with
  |none=>rfl
  |some u=>
   have:=mM hD hC k (by rw[hd];rfl);rw[hc]at this;cases this
 |some t=>
  cases hd:D k with
  |none=>
   have:=mM hC hD k (by rw[hc];rfl);rw[hd]at this;cases this
  |some u=>
   obtain⟨a1,a2,a3,a4,a5,a6⟩:=hC.i hc;obtain⟨_,b2,b3,b4,b5,b6⟩:=hD.i hd;obtain⟨t',t1,t2,t3⟩:=F.g.invl a3;have hh:H (m t' u):=hm (hi a2 t1 t2) b2;have hhs:S (m t' u):=F.g.cl t1 b3;have e1:m t (m t' u)=u:=by rw[←F.g.assoc a3 t1 b3,t2,F.g.onel b3]
   have same:∀j,j<n→(C j).isSome=uf→co t j=co u j:=fun j hj mJ=>by
    rcases Jc4 j k with h|h|h
    ·rw[a4 j h,b4 j h]
    ·rw[h,a5,b5]
    ·rw[a6 j h hj mJ,b6 j h hj (mM hC hD j mJ)]
   have hz:m t' u=e:=by
    refine Classical.byContradiction fun gj=>?_
    obtain⟨j,j1,j2,j3,j4⟩:=hC.d hh gj;have h1:=(F.ad a3 hhs j1 j3).2;rw[e1,←same j j1 j2]at h1;have r1:=F.r a3 j1;have r2:=F.r hhs j1
    by_cases g:co t j+co (m t' u) j<o j
    ·rw[Jr (by omega) g]at h1;omega
    ·rw[←Gi,Jr (by omega) (by omega)]at h1;omega
   rw[hz,F.g.oner a3]at e1;rw[e1]
end
end Go.Pc

namespace Go.Pc
section
variable {α:Type}{S:α→Prop}{m:α→α→α}{e:α}{n:Nat}{o:Nat→Int}{co:α→Nat→Int}
def Dp(n:Nat)(co:α→Nat→Int)(k:Nat)(a:α):Prop:=∀j,j<k→j<n→co a j=0
theorem Gen.tr{T T':Nat→Option α}{Q Q':List α}{k:Nat}(hT:∀k t,T k=ud t→T' k=ud t)(hq:∀a∈Q,∀k,Dp n co k a→Gen S m e (GX n co T' Q' k) a){a:α}(h:Gen S m e (GX n co T Q k) a):Gen S m e (GX n co T' Q' k) a:=
 h.to fun a ha=>by
  rcases ha with⟨j,h1,h2⟩|⟨h1,h2⟩
  ·exact .x (.inl ⟨j,h1,hT _ _ h2⟩)
  ·exact hq a h1 k h2
structure Wl (S:α→Prop) (m:α→α→α) (e:α) (n:Nat) (o:Nat→Int) (co:α→Nat→Int) (L:α→Prop) (T:Nat→Option α) (Q:List α):Prop where
 t:Tab S n co T
 th:∀{k t},T k=ud t→Gen S m e L t
 q:∀a∈Q,S a∧Gen S m e L a
 g:∀a,L a→Gen S m e (GX n co T Q 0) a
 c:Clo S m e n o co T Q
theorem Wl.start(L:List α)(hL:∀a∈L,S a):Wl S m e n o co (· ∈L) (fun _=>ue) L:=
 ⟨⟨fun h=>by cases h⟩,(fun h=>by cases h),(fun a h=>⟨hL a h,.x h⟩),(fun a h=>.x (.inr ⟨h,fun j hj=>by omega⟩)),⟨(fun h=>by cases h),(fun h=>by cases h)⟩⟩
theorem Wl.drop{L:α→Prop}{T:Nat→Option α}{Q Q':List α}(h:Wl S m e n o co L T Q){x:α}(hx:∀k,Dp n co k x→Gen S m e (GX n co T Q' k) x)(h1:∀a∈Q',a∈Q)(h2:∀a∈Q,a=x∨a∈Q'):Wl S m e n o co L T Q':=by
 have tr:∀{k a},Gen S m e (GX n co T Q k) a→Gen S m e (GX n co T Q' k) a:=fun g=>g.tr (fun _ _ h=>h) fun a ha k hk=>by
  rcases h2 a ha with rfl|h
  ·exact hx k hk
  ·exact .x (.inr ⟨h,hk⟩)
 exact⟨h.t,h.th,fun a ha=>h.q a (h1 a ha),fun a ha=>tr (h.g a ha),⟨fun ht=>tr (h.c.p ht),fun a b c=>by obtain⟨w,w1,w2⟩:=h.c.c a b c;exact⟨w,tr w1,w2⟩⟩⟩
variable (F:Fil S m e n o co)
 include F
theorem Wl.add{L:α→Prop}{T:Nat→Option α}{Q Q':List α}(h:Wl S m e n o co L T Q){x y:α}{d:Nat}(hd:d<n)(hTd:T d=ue)(hy:S y)(cj:Gen S m e L y)(zy:∀j,j<d→co y j=0)(oy:co y d=1)
  (hx:∀k,Dp n co k x→Gen S m e (GX n co (fun j=>if j=d then ud y else T j) Q' k) x)(hq:∀a∈Q',S a∧Gen S m e L a)(h2:∀a∈Q,a=x∨a∈Q')
  (hp:pw m e y (o d).toNat∈Q')(hc:∀k u,T k=ud u→ ∃w,w∈Q'∧(m (m u y) w=m y u∨m (m y u) w=m u y)):Wl S m e n o co L (fun j=>if j=d then ud y else T j) Q':=by
 have hT:∀k t,T k=ud t→(fun j=>if j=d then ud y else T j) k=ud t:=fun k t hk=>by
  show(if k=d then ud y else T k)=ud t;rw[if_neg]
  ·exact hk
  ·intro g;rw[g,hTd]at hk;cases hk
 have po:Tab S n co (fun j=>if j=d then ud y else T j):=⟨fun{k t} hk=>by
  replace hk:(if k=d then ud y else T k)=ud t:=hk
  split at hk
  ·rename_i g;cases hk;subst g;exact⟨hd,hy,zy,oy⟩
  ·exact h.t.h hk⟩
 have hS:∀{k a},Gen S m e (GX n co (fun j=>if j=d then ud y else T j) Q' k) a→S a:=fun g=>g.in F.g (GX.s po fun a ha=>(hq a ha).1)
 have tr:∀{k a},Gen S m e (GX n co T Q k) a→Gen S m e (GX n co (fun j=>if j=d then ud y else T j) Q' k) a:=fun g=>g.tr hT fun a ha k hk=>by
  rcases h2 a ha with rfl|h
  ·exact hx k hk
  ·exact .x (.inr ⟨h,hk⟩)
 have new:∀{k j t u w},k<n→S t→S u→(∀i,i<k→co t i=0)→(∀i,i<j→co u i=0)→k<j→(fun i=>if i=d then ud y else T i) j=ud u→w∈Q'→(m (m u t) w=m t u∨m (m t u) w=m u t)→ ∃c,Gen S m e (GX n co (fun j=>if j=d then ud y else T j) Q' (k+1)) c∧m u t=m t c:=fun{k j t u w} hk ht hu zt zu cQ hju hw hh=>by
  have ae:=(hq w hw).1;have mH:=F.cmd hk ht hu ae zt (fun i hi=>zu i (by omega)) hh;have g1:Gen S m e (GX n co (fun j=>if j=d then ud y else T j) Q' (k+1)) w:=.x (.inr ⟨hw,fun i hi _=>mH i hi⟩);have g2:Gen S m e (GX n co (fun j=>if j=d then ud y else T j) Q' (k+1)) u:=.x (.inl ⟨j,cQ,hju⟩);rcases hh with hh|hh
  ·obtain⟨v,v1,v2,_⟩:=F.g.invl ae
   refine⟨m u v,.m g2 (.i g1 v1 v2),?_⟩;rw[←F.g.assoc ht hu v1,←hh,F.g.assoc (F.g.cl hu ht) ae v1,v2,F.g.oner (F.g.cl hu ht)]
  ·exact⟨m u w,.m g2 g1,by rw[←F.g.assoc ht hu ae,hh]⟩
 refine⟨po,fun{k t} hk=>?_,hq,fun a ha=>tr (h.g a ha),fun{k t} hk=>?_,fun{k j t u} hk hj cQ=>?_⟩
 ·replace hk:(if k=d then ud y else T k)=ud t:=hk
  split at hk
  ·cases hk;exact cj
  ·exact h.th hk
 ·replace hk:(if k=d then ud y else T k)=ud t:=hk
  split at hk
  ·rename_i g
   cases hk;subst g;have hpc:=F.pwc hd hy zy (o k).toNat;have ho:=F.r hy hd;refine .x (.inr ⟨hp,fun i hi gW=>?_⟩)
   by_cases g:i=k
   ·rw[g,hpc.2,oy,Hf,show(((o k).toNat:Nat):Int)=o k from by omega,Qn]
   ·exact hpc.1 i (by omega)
  ·exact tr (h.c.p hk)
 ·have a1:=po.h hk
  have a2:=po.h hj;have ax:(if k=d then ud y else T k)=ud t:=hk;have c7:(if j=d then ud y else T j)=ud u:=hj;split at ax
  ·rename_i g
   cases ax;subst g;rw[if_neg (by omega)]at c7;obtain⟨w,w1,w2⟩:=hc j u c7;exact new hd hy a2.2.1 zy a2.2.2.1 cQ hj w1 w2
  ·split at c7
   ·rename_i g2
    cases c7;subst g2;obtain⟨w,w1,w2⟩:=hc k t ax;exact new a1.1 a1.2.1 hy a1.2.2.1 zy cQ hj w1 w2.symm
   ·obtain⟨c,c1,c2⟩:=h.c.c ax c7 cQ
    exact⟨c,tr c1,c2⟩
structure Sf (S:α→Prop) (m:α→α→α) (e:α) (n:Nat) (co:α→Nat→Int) (T:Nat→Option α) (x y:α):Prop where
 s:S y
 d:∀k,Dp n co k x→Dp n co k y
 g:∀k Q,(∀a∈Q,S a)→Dp n co k x→Gen S m e (GX n co T Q k) y→Gen S m e (GX n co T Q k) x
 h:∀H:α→Prop,(∀a,H a→S a)→(∀{k t},T k=ud t→Gen S m e H t)→Gen S m e H x→Gen S m e H y
 omit F in
theorem Sf.refl{T:Nat→Option α}{x:α}(hx:S x):Sf S m e n co T x x:=⟨hx,fun _ h=>h,fun _ _ _ _ h=>h,fun _ _ _ h=>h⟩
 omit F in
theorem Sf.trans{T:Nat→Option α}{x y z:α}(h1:Sf S m e n co T x y)(h2:Sf S m e n co T y z):Sf S m e n co T x z:=
  ⟨h2.s,fun k h=>h2.d k (h1.d k h),fun k Q hQ h g=>h1.g k Q hQ h (h2.g k Q hQ (h1.d k h) g),fun H hS hT g=>h2.h H hS hT (h1.h H hS hT g)⟩
theorem Sf.right{T:Nat→Option α}(hT:Tab S n co T){x t z:α}{d:Nat}(hd:d<n)(hx:S x)(zx:∀j,j<d→co x j=0)(nx:co x d≠0)(ht:T d=ud t)(hz:∀{Y:α→Prop},(∀a,Y a→S a)→Gen S m e Y t→Gen S m e Y z)(mV:S z)(zz:∀j,j<d→co z j=0)(hr:co (m x z) d=0):Sf S m e n co T x (m x z)∧ ∀j,j<d+1→co (m x z) j=0:=by
 have bq:=F.dm (by omega) hx mV zx zz;have mH:∀j,j<d+1→co (m x z) j=0:=fun j hj=>by
  by_cases g:j=d
  ·rw[g];exact hr
  ·exact bq j (by omega)
 have hk:∀k,Dp n co k x→k≤d:=fun k h=>by
  by_cases g:k≤d
  ·exact g
  ·exact absurd (h d (by omega) hd) nx
 refine⟨⟨F.g.cl hx mV,fun k h=>fun j hj _=>mH j (by have:=hk k h;omega),fun k Q hQ h g=>?_,fun H hS hT' g=>.m g (hz hS (hT' ht))⟩,mH⟩;exact Gen.left F.g (GX.s hT hQ) hx (hz (GX.s hT hQ) (.x (.inl ⟨d,hk k h,ht⟩))) g
theorem Sf.left{T:Nat→Option α}(hT:Tab S n co T){x t z:α}{d:Nat}(hd:d<n)(hx:S x)(zx:∀j,j<d→co x j=0)(nx:co x d≠0)(ht:T d=ud t)(hz:∀{Y:α→Prop},(∀a,Y a→S a)→Gen S m e Y t→Gen S m e Y z)(mV:S z)(zz:∀j,j<d→co z j=0)(hr:co (m z x) d=0):Sf S m e n co T x (m z x)∧ ∀j,j<d+1→co (m z x) j=0:=by
 have bq:=F.dm (by omega) mV hx zz zx;have mH:∀j,j<d+1→co (m z x) j=0:=fun j hj=>by
  by_cases g:j=d
  ·rw[g];exact hr
  ·exact bq j (by omega)
 have hk:∀k,Dp n co k x→k≤d:=fun k h=>by
  by_cases g:k≤d
  ·exact g
  ·exact absurd (h d (by omega) hd) nx
 refine⟨⟨F.g.cl mV hx,fun k h=>fun j hj _=>mH j (by have:=hk k h;omega),fun k Q hQ h g=>?_,fun H hS hT' g=>.m (hz hS (hT' ht)) g⟩,mH⟩;exact Gen.right F.g (GX.s hT hQ) (hz (GX.s hT hQ) (.x (.inl ⟨d,hk k h,ht⟩))) hx g
theorem Wl.can{L:α→Prop}{T:Nat→Option α}(h:Wl S m e n o co L T []){C:Nat→Option α}(h1:∀k,(C k).isSome=(T k).isSome)
  (h2:∀{k t},C k=ud t→Gen S m e L t∧S t∧(∀j,j<k→co t j=0)∧co t k=1∧ ∀j,k<j→j<n→(C j).isSome=uf→co t j=0):Can (e:=e) S n co (Gen S m e L) C:=by
 refine⟨fun{k t} hk=>⟨?_,h2 hk⟩,fun{x} hx gj=>?_⟩
 ·have:=h1 k
  rw[hk]at this;obtain⟨u,hu⟩:=Uc.1 this.symm;exact(h.t.h hu).1
 ·obtain⟨j,_,j2,j3,j4⟩:=Clo.depth F h.t h.c n 0 (by omega) (hx.to h.g) (fun j hj=>by omega) gj
  exact⟨j,j2,by rw[h1];exact j3,j4⟩
end
end Go.Pc

namespace Go.Pc
def cd(v:Vec)(j:Nat):Int:=v.getD j 0
def od(P:Pcp)(j:Nat):Int:=match P[j]? with
 |some l=>l.o
 |none=>1
theorem zSi(l:Lvl)(P:Pcp):od (l::P) 0=l.o:=rfl
theorem zMA(l:Lvl)(P:Pcp)(j:Nat):od (l::P) (j+1)=od P j:=by simp[od]
theorem zW2:∀{P:Pcp}{v:Vec},V P v→ ∀{d:Nat},d<P.length→0≤cd v d∧cd v d<od P d
 | [],_,_,d,hd=>by simp at hd
 |l::P,[],h,_,_=>by simp[V]at h
 |l::P,a::x,h,0,_=>by simp only[V]at h;exact h.1
 |l::P,a::x,h,d+1,hd=>by simp only[V]at h;rw[zMA];exact zW2 h.2 (by simpa using hd)
theorem zT3:∀{P:Pcp}{a b:Vec},V P a→V P b→(∀d,d<P.length→cd a d=cd b d)→a=b
 | [],a,b,ha,hb,_=>by simp only[V]at ha hb;rw[ha,hb]
 |l::P,[],_,h,_,_=>by simp[V]at h
 |l::P,_::_,[],_,h,_=>by simp[V]at h
 |l::P,a::x,b::y,ha,hb,h=>by simp only[V]at ha hb;have h0:a=b:=h 0 (by simp);rw[h0,zT3 ha.2 hb.2 fun d hd=>h (d+1) (by simpa using hd)]
theorem zT4:∀{P:Pcp}{x y:Vec},V P x→V P y→ ∀{d:Nat},d<P.length→(∀j,j<d→cd y j=0)→(∀j,j<d→cd (mul P x y) j=cd x j)∧cd (mul P x y) d=(cd x d+cd y d)%od P d
 | [],_,_,_,_,d,hd,_=>by simp at hd
 |l::P,[],_,h,_,_,_,_=>by simp[V]at h
 |l::P,_::_,[],_,h,_,_,_=>by simp[V]at h
 |l::P,a::x,b::y,hx,hy,0,_,_=>by
  simp only[V]at hx hy;refine⟨fun j hj=>by omega,?_⟩;rw[yK,zSi];show cd _ 0=(a+b)%l.o
  by_cases g:a+b≥l.o
  ·rw[if_pos g,←Gi,Jr (by omega) (by omega)];rfl
  ·rw[if_neg g,Jr (by omega) (by omega)];rfl
 |l::P,a::x,b::y,hx,hy,d+1,hd,hz=>by
  simp only[V]at hx hy;have hb:b=0:=hz 0 (by omega);subst hb;have ih:=zT4 hx.2 hy.2 (d:=d) (by simpa using hd) fun j hj=>hz (j+1) (by omega)
  rw[yK,if_neg (by omega),zMA];show(∀j,j<d+1→cd ((a+0)::mul P x y) j=cd (a::x) j)∧_;rw[Lp];refine⟨fun j hj=>?_,ih.2⟩;cases j with
  |zero=>rfl
  |succ j=>exact ih.1 j (by omega)
theorem zPs{n d:Nat}:cd (zeros n) d=0:=by unfold cd zeros;rw[J3,Js];split<;>rfl
theorem fil{P:Pcp}(h:Ok P)(hc:wE P):Fil (V P) (mul P) (zeros P.length) P.length (od P) cd:=
 ⟨zJ3 P h hc,fun ha hd=>zW2 ha hd,fun _=>zPs,fun ha hb h=>zT3 ha hb h,fun ha hb hd hz=>zT4 ha hb hd hz⟩
end Go.Pc

namespace Go.Pc
section
variable {α:Type}{S:α→Prop}{m:α→α→α}{e:α}{n:Nat}{o:Nat→Int}{co:α→Nat→Int} (F:Fil S m e n o co)
 include F
theorem Fil.pw1{t:α}{d:Nat}(hd:d<n)(ht:S t)(zt:∀j,j<d→co t j=0)(h1:co t d=1)(k:Nat):S (pw m e t k)∧(∀j,j<d→co (pw m e t k) j=0)∧co (pw m e t k) d=k%o d:=by have h:=F.pwc hd ht zt k;rw[h1,Hf]at h;exact⟨wU F.g.toMon ht k,h⟩
theorem Fil.killl{t x:α}{d:Nat}(hd:d<n)(ht:S t)(zt:∀j,j<d→co t j=0)(h1:co t d=1)(hx:S x)(zx:∀j,j<d→co x j=0):co (m (pw m e t (o d-co x d).toNat) x) d=0:=by have hr:=F.r hx hd;obtain⟨p1,p2,p3⟩:=F.pw1 hd ht zt h1 (o d-co x d).toNat;rw[(F.ad p1 hx hd zx).2,p3,Gw,show(((o d-co x d).toNat:Nat):Int)=o d-co x d from by omega,show o d-co x d+co x d=o d from by omega,Qn]
theorem Fil.invc{t u:α}{d:Nat}(hd:d<n)(ht:S t)(hu:S u)(h:m t u=e)(zt:∀j,j<d→co t j=0):(∀j,j<d→co u j=0)∧(co t d+co u d)%o d=0:=by
 have z:∀j,j<d→co u j=0:=by
  intro j
  induction j using U9 with
  |ind j ih=>
   intro hj;have h1:=(F.ad ht hu (by omega:j<n) fun i hi=>ih i hi (by omega)).2;rw[h,F.e0 (by omega),zt j hj,Ky]at h1;rw[←F.md (by omega) hu rfl];exact h1.symm
 refine⟨z,?_⟩;have h1:=(F.ad ht hu hd z).2;rw[h,F.e0 hd]at h1;exact h1.symm
theorem Fil.killr{t u x:α}{d:Nat}(hd:d<n)(ht:S t)(hu:S u)(h:m t u=e)(zt:∀j,j<d→co t j=0)(h1:co t d=1)(hx:S x):S (pw m e u (co x d).toNat)∧(∀j,j<d→co (pw m e u (co x d).toNat) j=0)∧co (m x (pw m e u (co x d).toNat)) d=0:=by
 have hr:=F.r hx hd;obtain⟨z,c⟩:=F.invc hd ht hu h zt;have hp:=F.pwc hd hu z (co x d).toNat;have hs:=wU F.g.toMon hu (co x d).toNat;refine⟨hs,hp.1,?_⟩;rw[(F.ad hx hs hd hp.1).2,hp.2,Jc6,show(((co x d).toNat:Nat):Int)=co x d from by omega];have e1:co x d+co x d*co u d=co x d*(co t d+co u d):=by rw[h1,Jca,Hf]
 rw[e1,Ho,c,Ja4,Int.zero_emod]
structure Rd (S:α→Prop) (m:α→α→α) (e:α) (n:Nat) (co:α→Nat→Int) (L:α→Prop) (C:Nat→Option α) (k j:Nat) (x:α):Prop where
 s:S x
 l:Gen S m e L x
 z:∀i,i<k→co x i=0
 o:co x k=1
 r:∀i,k<i→i<j→(C i).isSome=uf→co x i=0
theorem Rd.step{L:α→Prop}{C:Nat→Option α}{k j:Nat}{x z:α}(h:Rd S m e n co L C k j x)(cQ:k<j)(hj:j<n)(hz:S z)(hl:Gen S m e L z)(zz:∀i,i<j→co z i=0)(hk:co (m x z) j=0):Rd S m e n co L C k (j+1) (m x z):=by
 have h1:=(F.ad h.s hz hj zz).1;refine⟨F.g.cl h.s hz,.m h.l hl,fun i hi=>?_,?_,fun i hi hij hc=>?_⟩
 ·rw[h1 i (by omega)];exact h.z i hi
 ·rw[h1 k cQ];exact h.o
 ·by_cases g:i=j
  ·rw[g];exact hk
  ·rw[h1 i (by omega)];exact h.r i hi (by omega) hc
 omit F in
theorem Rd.skip{L:α→Prop}{C:Nat→Option α}{k j:Nat}{x:α}(h:Rd S m e n co L C k j x)(hc:C j=ue∨co x j=0):Rd S m e n co L C k (j+1) x:=
  ⟨h.s,h.l,h.z,h.o,fun i hi hij cR=>by
    by_cases g:i=j
    · subst g
      rcases hc with hc|hc
      ·rw[hc]at cR;cases cR
      ·exact hc
    ·exact h.r i hi (by omega) cR⟩
end
end Go.Pc

namespace Go.Pl
open Go Go.Ab
theorem bs{α β:Type}(x:α)(f:α→Option β):(ud x).bind f=f x:=by simp only[Option.bind_some]
theorem zK{α:Type}(x y:α):cond uf x y=x:=by simp only[cond_true]
theorem zM{α:Type}(x y:α):cond ug x y=y:=by simp only[cond_false]
theorem zE{n:Int}(h1:-9223372036854775808≤n)(h2:n≤9223372036854775807):rng n=ud n:=by unfold rng;rw[if_pos];simp only[inR,J2,decide_eq_true_eq];omega
theorem vC{α:Type}(xs:List α)(i:Nat):ixO xs (i:Int)=xs[i]?:=by unfold ixO;rw[if_pos (by omega)];simp
theorem jW{α:Type}{xs:List α}{i:Nat}(h:i<xs.length):ixO xs (i:Int)=ud xs[i]:=by rw[vC];exact J5 h
theorem yN{n:Nat}(h:n≤68719476736):yT (n:Int)=ud n:=by unfold yT;rw[if_pos (by omega)];simp
theorem yC{α:Type}{xs ys:List α}(h:xs.length+ys.length≤68719476736):xM xs ys=ud (xs++ys):=by unfold xM;rw[if_pos h]
theorem zR{σ ρ:Type}{body:σ→Option (σ⊕ρ)}{r:ρ}(S:Nat→σ)(n:Nat)(h:∀i,i<n→body (S i)=ud (.inl (S (i+1))))(he:body (S n)=ud (.inr r)):zI body (S 0)=ud r:=by
 have key:∀k i,i+k=n→zI body (S i)=ud r:=by
  intro k
  induction k with
  |zero=>intro i hi;rw[xK,show i=n from by omega,he]
  |succ k ih=>intro i hi;rw[xK,h i (by omega)];exact ih (i+1) (by omega)
 exact key n 0 (by omega)
theorem wS{σ ρ:Type}{body:σ→Option (σ⊕ρ)}{Q:ρ→Prop}(I:Nat→σ→Prop)(n:Nat)(h:∀i s,i<n→I i s→(∃s',body s=ud (.inl s')∧I (i+1) s')∨ ∃r,body s=ud (.inr r)∧Q r)
  (he:∀s,I n s→ ∃r,body s=ud (.inr r)∧Q r){s:σ}(h0:I 0 s):∃r,zI body s=ud r∧Q r:=by
 have key:∀k i s,i+k=n→I i s→ ∃r,zI body s=ud r∧Q r:=by
  intro k
  induction k with
  |zero=>
   intro i s hi hs;obtain rfl:i=n:=by omega
   obtain⟨r,h1,h2⟩:=he s hs;exact⟨r,by rw[xK,h1],h2⟩
  |succ k ih=>
   intro i s hi hs;rcases h i s (by omega) hs with⟨s',h1,h2⟩|⟨r,h1,h2⟩
   ·rw[xK,h1];exact ih (i+1) s' (by omega) h2
   ·exact⟨r,by rw[xK,h1],h2⟩
 exact key n 0 s (by omega) h0
def zMB{ρ:Type}:Option ρ→Unit⊕ρ
 |none=>.inl ()
 |some r=>.inr r
theorem cs(i:Nat):(i:Int)+1=((i+1:Nat):Int):=by omega
theorem zNx{ρ:Type}{body:Int→Option (Int⊕(Unit⊕ρ))}(n:Nat)(t:Nat→Option ρ)(i0:Nat)(hn:i0≤n)
  (h:∀i,i0≤i→i<n→(∀j,i0≤j→j<i→t j=ue)→body (i:Int)=ud (match t i with|none=>.inl ((i+1:Nat):Int)|some r=>.inr (.inr r)))
  (he:(∀j,i0≤j→j<n→t j=ue)→body (n:Int)=ud (.inr (.inl ()))):
  zI body (i0:Int)=ud (zMB ((Hy i0 (n-i0)).findSome? t)):=by
 have key:∀k i,i0≤i→i+k=n→(∀j,i0≤j→j<i→t j=ue)→zI body (i:Int)=ud (zMB ((Hy i k).findSome? t)):=by
  intro k
  induction k with
  |zero=>
   intro i hi hk hp;obtain rfl:i=n:=by omega
   rw[xK,he hp];rfl
  |succ k ih=>
   intro i hi hk hp;rw[xK,h i hi (by omega) hp,He,Qe];cases ht:t i with
   |some r=>rfl
   |none=>
    simp only
    exact ih (i+1) (by omega) (by omega) fun j h1 h2=>by
     rcases Kb j i with h3|h3
     ·exact hp j h1 h3
     ·rw[show j=i from by omega];exact ht
 exact key (n-i0) i0 (Jh _) (by omega) fun j h1 h2=>by omega
theorem zPt{n:Nat}{b:Nat→Bool}:zMB ((Hy 0 n).findSome? (fun i=>if b i then ue else ud ug))=if(Jk n).all b then .inl ()else .inr ug:=by
 have key:∀l:List Nat,zMB (l.findSome? (fun i=>if b i then ue else ud ug))=if l.all b then .inl ()else .inr ug:=by
  intro l
  induction l with
  |nil=>rfl
  |cons x l ih=>
   rw[Qe,Ja2];cases hb:b x
   ·rfl
   ·simpa using ih
 rw[key,List.range_eq_range']
theorem zHp{body:Int→Option (Int⊕(Unit⊕Bool))}(n:Nat)(b:Nat→Bool)
  (h:∀i,i<n→(∀j,j<i→b j=uf)→body (i:Int)=ud (if b i then .inl ((i+1:Nat):Int)else .inr (.inr ug)))
  (he:(∀j,j<n→b j=uf)→body (n:Int)=ud (.inr (.inl ()))):
  zI body 0=ud (if(Jk n).all b then .inl ()else .inr ug):=by
 have:=zNx (body:=body) n (fun i=>if b i then ue else ud ug) 0 (Kn _) (fun i _ hi hp=>by
  rw[h i hi fun j hj=>by
   have:=hp j (Kn _) hj;split at this
   ·assumption
   ·cases this]
  cases b i<;>rfl) (fun hp=>he fun j hj=>by
   have:=hp j (Kn _) hj;split at this
   ·assumption
   ·cases this)
 rw[Jc3]at this;exact this.trans (congrArg ud (zPt (n:=n) (b:=b)))
theorem zPu{α:Type}{xs:List α}{z:α}{i:Nat}(h:i<xs.length):(xs.take i++J1 (xs.length-i) z).set i xs[i]=xs.take (i+1)++J1 (xs.length-(i+1)) z:=by
 have h1:(xs.take i).length=i:=by rw[L6];omega
 rw[Lx _ _ (by omega),h1,Ka,show xs.length-i=(xs.length-(i+1))+1 from by omega,K6,Kj,Jm h];simp only[J9,Kt]
theorem zIl{α:Type}{f:α→Option α}{body:List α×Int→Option ((List α×Int)⊕List α)}{x0:List α}{z:α}
  (hb:∀s,body s=cond (decide (s.2<(x0.length:Int))) ((ixO x0 s.2).bind fun v2=>(f v2).bind fun r3=>(ixO s.1 s.2).bind fun _=>(rng (s.2+1)).bind fun v5=>ud (.inl (s.1.set s.2.toNat r3,v5))) (ud (.inr s.1)))
  (hl:x0.length≤68719476736)(hf:∀x∈x0,f x=ud x):zI body (J1 x0.length z,0)=ud x0:=by
 have:=zR (body:=body) (r:=x0) (fun i=>(x0.take i++J1 (x0.length-i) z,(i:Int))) x0.length (fun i hi=>by
  rw[hb];simp only[ui (show((i:Int))<(x0.length:Int)from by omega),zK];rw[jW hi,vC];simp only[bs,hf _ (Jx hi)];rw[J5 (by simp;omega),bs,zE (by omega) (by omega),bs];simp only[Jd,zPu hi,cs]) (by
  rw[hb];simp only[uh (show¬((x0.length:Int))<(x0.length:Int)from by omega),zM,Gy,Ka,Lf,Jf])
 simpa using this
theorem zSj{α:Type}[BEq α]{t:α→α→Option Bool}{body:Int→Option (Int⊕(Unit⊕Bool))}{x y:List α}
  (hb:∀i,body i=cond (decide (i<(x.length:Int))) ((ixO x i).bind fun v1=>(ixO y i).bind fun v2=>(t v1 v2).bind fun r3=>cond (!r3) (ud (.inr (.inr ug))) ((rng (i+1)).bind fun v4=>ud (.inl v4))) (ud (.inr (.inl ()))))
  (hl:x.length≤68719476736)(bA:x.length=y.length)(ht:∀u∈x,∀v∈y,t u v=ud (u==v)):zI body 0=ud (if x==y then .inl ()else .inr ug):=by
 have h:=zHp (body:=body) x.length (fun i=>match x[i]?,y[i]? with|some u,ud v=>u==v|_,_=>uf) (fun i hi _=>by
  have eH:i<y.length:=by omega
  rw[hb];simp only[ui (show((i:Int))<(x.length:Int)from by omega),zK];rw[jW hi,jW eH];simp only[bs,ht _ (Jx hi) _ (Jx eH),J5 hi,J5 eH];cases x[i]==y[i]
  ·rfl
  ·simp only[Jc,zM,if_true]
   rw[zE (by omega) (by omega),cs];rfl) (fun _=>by
  rw[hb];simp only[uh (show¬((x.length:Int))<(x.length:Int)from by omega),zM])
 rw[h]
 congr 2
 have key:∀(x y:List α),x.length=y.length→((Jk x.length).all (fun i=>match x[i]?,y[i]? with|some u,ud v=>u==v|_,_=>uf))=(x==y):=by
  intro x
  induction x with
  |nil=>intro y hy;cases y with|nil=>rfl|cons _ _=>simp at hy
  |cons u x ih=>
   intro y hy;cases y with
   |nil=>simp at hy
   |cons v y=>
    rw[Jl,Qi,Ja2,List.all_map];simp only[Uk,Function.comp_def,Ja8];rw[ih y (by simpa using hy)];rfl
 rw[key x y bA]
theorem zHq{α:Type}[BEq α]{t:α→α→Option Bool}{f:Option Bool}{body:Int→Option (Int⊕(Unit⊕Bool))}{x y:List α}
  (hf:f=cond ((x.length:Int) != (y.length:Int)) (ud ug) ((zI body 0).bind fun r=>match r with|.inl _=>ud uf|.inr r=>ud r))
  (hb:∀i,body i=cond (decide (i<(x.length:Int))) ((ixO x i).bind fun v1=>(ixO y i).bind fun v2=>(t v1 v2).bind fun r3=>cond (!r3) (ud (.inr (.inr ug))) ((rng (i+1)).bind fun v4=>ud (.inl v4))) (ud (.inr (.inl ()))))
  (hl:x.length≤68719476736)(ht:∀u∈x,∀v∈y,t u v=ud (u==v)):f=ud (x==y):=by
 rw[hf]
 by_cases bA:x.length=y.length
 ·rw[zSj hb hl bA ht]
  have:((x.length:Int) != (y.length:Int))=ug:=by simp[bA]
  rw[this];cases x==y<;>rfl
 ·have:((x.length:Int) != (y.length:Int))=uf:=by simp;omega
  rw[this];have h2:(x==y)=ug:=by
   have key:∀(x y:List α),x.length≠y.length→(x==y)=ug:=by
    intro x
    induction x with
    |nil=>intro y hy;cases y with|nil=>simp at hy|cons _ _=>rfl
    |cons u x ih=>
     intro y hy;cases y with
     |nil=>rfl
     |cons v y=>
      show(u==v&&x==y)=ug;rw[ih y (by simpa using hy),Bool.and_false]
   exact key x y bA
  rw[h2];rfl
end Go.Pl

namespace Go.Pl
open Go Go.Ab
def sm{α:Type}(c:α→Nat):List α→Nat
 | []=>0
 |x::xs=>c x+sm c xs
theorem zCc{α:Type}(c:α→Nat):∀xs ys:List α,sm c (xs++ys)=sm c xs+sm c ys
 | [],ys=>by simp[sm]
 |x::xs,ys=>by simp only[Kz,sm,zCc c xs ys];omega
theorem zEX{α:Type}(c:α→Nat){xs:List α}{i:Nat}(h:i<xs.length):sm c (xs.take (i+1))=sm c (xs.take i)+c xs[i]:=by grind[Jm,zCc,sm]
theorem zAS{α:Type}(c:α→Nat)(xs:List α)(i:Nat):sm c (xs.take i)≤sm c xs:=by grind[zCc,Qq]
theorem zPv{α:Type}(c:α→Nat){xs:List α}{x:α}(h:x∈xs):c x≤sm c xs:=by
 obtain⟨i,hi,rfl⟩:=K1.1 h;have:=zEX c hi
 grind[zAS]
def szR(c:Nat)(b:Int):Int:=if(c:Int)≤b then b-c else -1
theorem zT5{α:Type}{c:α→Nat}{t:α→Int→Option Int}{f:Option Int}{body:Int×Int→Option ((Int×Int)⊕(Int⊕Int))}{xs:List α}{b:Int}
  (hf:f=(rng (b-(xs.length:Int))).bind fun v1=>cond (decide (v1<0)) (ud (-1)) ((zI body (v1,0)).bind fun r=>match r with|.inl r=>ud r|.inr r=>ud r))
  (hb:∀s,body s=cond (decide (s.2<(xs.length:Int))) ((ixO xs s.2).bind fun v2=>(t v2 s.1).bind fun r3=>cond (decide (r3<0)) (ud (.inr (.inr (-1)))) ((rng (s.2+1)).bind fun v4=>ud (.inl (r3,v4)))) (ud (.inr (.inl s.1))))
  (hl:xs.length≤9223372036854775807)(b0:0≤b)(b1:b≤1048576)(ht:∀x∈xs,∀b',0≤b'→b'≤1048576→t x b'=ud (szR (c x) b')):f=ud (szR (xs.length+sm c xs) b):=by
 rw[hf,zE (by omega) (by omega),bs]
 by_cases h0:b-(xs.length:Int)<0
 ·rw[ui h0,zK,szR,if_neg (by omega)]
 ·rw[uh h0,zM]
  obtain⟨r,h1,h2⟩:=wS (body:=body) (Q:=fun r=>(match r with|.inl r=>ud r|.inr r=>ud r)=ud (szR (xs.length+sm c xs) b)) (fun i s=>s.2=(i:Int)∧0≤s.1∧s.1=b-xs.length-sm c (xs.take i)) xs.length (fun i s hi ⟨e1,e2,e3⟩=>by
   rw[hb,e1,ui (by omega),zK,jW hi,bs,ht _ (Jx hi) _ e2 (by omega),bs];have h3:=zEX c hi;have h4:=zAS c xs (i+1);unfold szR
   by_cases h5:(c xs[i]:Int)≤s.1
   ·rw[if_pos h5,uh (by omega),zM,zE (by omega) (by omega),bs,cs]
    grind
   grind) (fun s ⟨e1,e2,e3⟩=>by
   rw[hb,e1,uh (by omega),zM];rw[Gy]at e3;refine⟨_,rfl,?_⟩;simp only
   rw[szR,if_pos (by omega),e3]
   grind) (s:=(b-(xs.length:Int),0)) ⟨rfl,by omega,by simp[sm]⟩
  grind
def mkL{α:Type}(m:Int→α→α)(c:α→Nat):Int→List α→List α
 |_,[]=>[]
 |k,x::xs=>m k x::mkL m c (k+c x) xs
theorem zCR{α:Type}(m:Int→α→α)(c:α→Nat):∀(xs ys:List α)(k:Int),mkL m c k (xs++ys)=mkL m c k xs++mkL m c (k+sm c xs) ys
 | [],ys,k=>by simp[mkL,sm]
 |x::xs,ys,k=>by
  simp only[Kz,mkL,sm,zCR m c xs ys]
  grind
theorem uN{α:Type}(m:Int→α→α)(c:α→Nat):∀(xs:List α)(k:Int),(mkL m c k xs).length=xs.length
 | [],_=>rfl
 |x::xs,k=>by simp[mkL,uN m c xs]
theorem zMC{α:Type}(m:Int→α→α)(c:α→Nat){xs:List α}{i:Nat}(h:i<xs.length)(k:Int):(mkL m c k xs)[i]'(by grind[uN])=m (k+sm c (xs.take i)) xs[i]:=by
 have h1:xs=xs.take i++xs[i]::xs.drop (i+1):=by simp
 have h2:=zCR m c (xs.take i) (xs[i]::xs.drop (i+1)) k;rw[←h1]at h2;rw[List.getElem_of_eq h2]
 grind[uN,mkL]
theorem zEg{α:Type}{m:Int→α→α}{c:α→Nat}{t:α→Int→Option (Int×α)}{body:List α×Int×Int→Option ((List α×Int×Int)⊕(List α×Int))}{xs:List α}{k:Int}
  (hb:∀s,body s=cond (decide (s.2.2<(s.1.length:Int))) ((ixO s.1 s.2.2).bind fun v1=>(t v1 s.2.1).bind fun r2=>(rng (s.2.2+1)).bind fun v3=>ud (.inl (s.1.set s.2.2.toNat r2.2,r2.1,v3))) (ud (.inr (s.1,s.2.1))))
  (hl:xs.length≤1048576)(k0:0≤k)(k1:k+sm c xs≤9223372036854775807)(ht:∀x∈xs,∀k':Int,0≤k'→k'+c x≤9223372036854775807→t x k'=ud (k'+c x,m k' x)):zI body (xs,k,0)=ud (mkL m c k xs,k+sm c xs):=by
 have:=zR (body:=body) (r:=(mkL m c k xs,k+sm c xs)) (fun i=>(mkL m c k (xs.take i)++xs.drop i,k+sm c (xs.take i),(i:Int))) xs.length (fun i hi=>by
  have h1:=zEX c hi;have h2:=zAS c xs (i+1);have gg:(mkL m c k (xs.take i)).length=i:=by grind[uN]
  have hg:(mkL m c k (xs.take i)++xs.drop i)[i]? =ud xs[i]:=by grind
  rw[hb];simp only
  rw[ui (by grind),zK,vC,hg,bs,ht _ (Jx hi) _ (by omega) (by omega),bs,zE (by omega) (by omega),bs,cs];simp only[Jd];rw[Lx _ _ (by omega),gg,Ka,Kx hi,Kj,Jm hi,zCR,zCc,J9];simp only[mkL,sm,Kt,Qy]
  grind) (by
  rw[hb];simp only
  rw[uh (by grind[uN]),zM];simp)
 grind[mkL,sm]
theorem zNy{α:Type}{m:Int→α→α}{c:α→Nat}{t:α→Int→Option Int}{f:Option Int}{xs:List α}{k:Int}{body:Int×Int→Option ((Int×Int)⊕(Int⊕Int))}
  (hf:f=(zI body (k,0)).bind fun r=>match r with|.inl r=>ud r|.inr r=>ud r)
  (hb:∀s,body s=cond (decide (s.2<((mkL m c k xs).length:Int))) ((ixO (mkL m c k xs) s.2).bind fun v1=>(t v1 s.1).bind fun r2=>cond (decide (r2<0)) (ud (.inr (.inr (-1)))) ((rng (s.2+1)).bind fun v3=>ud (.inl (r2,v3)))) (ud (.inr (.inl s.1))))
  (hl:xs.length≤1048576)(k0:0≤k)(k1:k+sm c xs≤9223372036854775807)(ht:∀x∈xs,∀k':Int,0≤k'→k'+c x≤9223372036854775807→t (m k' x) k'=ud (k'+c x)):f=ud (k+sm c xs):=by
 have:=zR (body:=body) (r:=.inl (k+sm c xs)) (fun i=>(k+sm c (xs.take i),(i:Int))) xs.length (fun i hi=>by
  have h1:=zEX c hi;have h2:=zAS c xs (i+1);rw[hb];simp only
  rw[uN,ui (by omega),zK,jW (by grind[uN]),bs,zMC m c hi,ht _ (Jx hi) _ (by omega) (by omega),bs,uh (by omega),zM,zE (by omega) (by omega),bs,cs,h1]
  grind) (by
  rw[hb];simp only
  rw[uN,uh (by omega),zM,Gy])
 rw[hf];simp only[Ko,sm]at this
 grind
end Go.Pl

namespace Go.Pl
open Go Go.Ab Go.Wk
abbrev VI(n:Int):Prop:=(Lit.int .i64 n).wf=uf
abbrev VL{α:Type}(V:α→Prop)(xs:List α):Prop:=xs.length≤maxLen∧ ∀x∈xs,V x
abbrev c1(x:List Int):Nat:=x.length
abbrev c2(x:List (List Int)):Nat:=x.length+sm c1 x
abbrev c3(x:List (List (List Int))):Nat:=x.length+sm c2 x
theorem zJ4{x:List Int}{b:Int}(hl:x.length≤9223372036854775807)(b0:0≤b)(b1:b≤1048576):zQf x b=ud (szR (c1 x) b):=by
 unfold zQf szR;rw[zE (by omega) (by omega),bs]
 grind
theorem zCd{x:List (List Int)}{b:Int}(h:VL (VL VI) x)(b0:0≤b)(b1:b≤1048576):zNL x b=ud (szR (c2 x) b):=
 zT5 (c:=c1) rfl (fun _=>rfl) h.1 b0 b1 fun y hy _ h1 h2=>zJ4 (h.2 y hy).1 h1 h2
theorem zFO{x:List (List (List Int))}{b:Int}(h:VL (VL (VL VI)) x)(b0:0≤b)(b1:b≤1048576):zS7 x b=ud (szR (c3 x) b):=
 zT5 (c:=c2) rfl (fun _=>rfl) h.1 b0 b1 (by grind[zCd])
abbrev S1(x:List Int):Prop:=c1 x≤1048576
abbrev S2(x:List (List Int)):Prop:=c2 x≤1048576
abbrev S3(x:List (List (List Int))):Prop:=c3 x≤1048576
theorem S2.mem{x:List (List Int)}(h:S2 x){y:List Int}(hy:y∈x):S1 y:=by
 have:=zPv c1 hy
 grind
theorem S3.mem{x:List (List (List Int))}(h:S3 x){y:List (List Int)}(hy:y∈x):S2 y:=by
 have:=zPv c2 hy
 grind
theorem S1.len{x:List Int}(h:S1 x):x.length≤1048576:=h
theorem S2.len{x:List (List Int)}(h:S2 x):x.length≤1048576:=by grind
theorem S3.len{x:List (List (List Int))}(h:S3 x):x.length≤1048576:=by grind
theorem zJ5{x:List Int}(h:S1 x):zNM x=ud x:=by unfold zNM;rw[yN (Lv h (by decide)),bs,zIl (body:=zQg x) (f:=ud) (fun _=>rfl) (by grind) (fun _ _=>rfl),bs]
theorem zCe{x:List (List Int)}(h:S2 x):f_r x=ud x:=by unfold f_r;rw[yN (by grind),bs,zIl (body:=zUP x) (f:=zNM) (fun _=>rfl) (by grind) (fun _ hx=>zJ5 (h.mem hx)),bs]
theorem zFP{x:List (List (List Int))}(h:S3 x):zQi x=ud x:=by unfold zQi;rw[yN (by grind),bs,zIl (body:=zQh x) (f:=f_r) (fun _=>rfl) (by grind) (fun _ hx=>zCe (h.mem hx)),bs]
theorem zJ6{x y:List Int}(h:S1 x):zRc x y=ud (x==y):=
 zHq (t:=fun u v=>ud (u==v)) (body:=zRb x y) rfl (fun _=>rfl) (by grind) fun _ _ _ _=>rfl
theorem kE{x y:List (List Int)}(h:S2 x):f_C x y=ud (x==y):=
 zHq (t:=zRc) (body:=zUY x y) rfl (fun _=>rfl) (by grind) fun _ hu _ _=>zJ6 (h.mem hu)
theorem zFQ{x y:List (List (List Int))}(h:S3 x):zSM x y=ud (x==y):=
 zHq (t:=f_C) (body:=zRd x y) rfl (fun _=>rfl) (by grind) fun _ hu _ _=>kE (h.mem hu)
def m1(k:Int)(x:List Int):List Int:=mkL (fun k _=>k) (fun _=>1) k x
def m2(k:Int)(x:List (List Int)):List (List Int):=mkL m1 c1 k x
def m3(k:Int)(x:List (List (List Int))):List (List (List Int)):=mkL m2 (sm c1) k x
theorem zKT{α:Type}:∀xs:List α,sm (fun _=>1) xs=xs.length
 | []=>rfl
 |x::xs=>by simp[sm,zKT xs];omega
theorem zFR{x:List Int}{k:Int}(h:S1 x)(k0:0≤k)(k1:k+c1 x≤9223372036854775807):zNT x k=ud (k+c1 x,m1 k x):=by have h1:=zKT x;have:=zEg (m:=fun k _=>k) (c:=fun _=>1) (t:=fun v k=>(rng (k+1)).bind fun v2=>ud (v2,k)) (body:=zNa) (xs:=x) (k:=k) (by grind[zNa]) h.len k0 (by grind) (by grind[zE]);unfold zNT;rw[this,bs,h1];rfl
theorem jB{x:List (List Int)}{k:Int}(h:S2 x)(k0:0≤k)(k1:k+sm c1 x≤9223372036854775807):f_Q x k=ud (k+sm c1 x,m2 k x):=by unfold f_Q;rw[zEg (body:=zUZ) (m:=m1) (c:=c1) (t:=zNT) (fun _=>rfl) h.len k0 k1 fun y hy _ h1 h2=>zFR (h.mem hy) h1 h2,bs];rfl
theorem zD0{x:List (List (List Int))}{k:Int}(h:S3 x)(k0:0≤k)(k1:k+sm (sm c1) x≤9223372036854775807):zRf x k=ud (k+sm (sm c1) x,m3 k x):=by unfold zRf;rw[zEg (body:=zRe) (m:=m2) (c:=sm c1) (t:=f_Q) (fun _=>rfl) h.len k0 k1 fun y hy _ h1 h2=>jB (h.mem hy) h1 h2,bs];rfl
theorem zKU{x:List Int}{k:Int}(h:S1 x)(k0:0≤k)(k1:k+c1 x≤9223372036854775807):zRg (m1 k x) k=ud (k+c1 x):=by
 have hl:=h.len;have bj:(m1 k x).length=x.length:=uN _ _ _ _;have:=zR (body:=zKy (m1 k x)) (r:=.inl (k+c1 x)) (fun i=>(k+(i:Int),(i:Int))) x.length (fun i hi=>by
  have hg:(m1 k x)[i]'(by omega)=k+sm (fun _=>1) (x.take i):=zMC _ _ hi _;unfold zKy;rw[ui (by omega),zK,jW (by rw[bj];exact hi),bs,hg,zKT,L6,Ur (by omega),show(k+(i:Int) != k+(i:Int))=ug from by simp,zM,zE (by omega) (by grind),bs,zE (by omega) (by omega),bs,cs]
  grind) (by
  unfold zKy
  grind)
 unfold zRg
 grind
theorem zJ7{x:List (List Int)}{k:Int}(h:S2 x)(k0:0≤k)(k1:k+sm c1 x≤9223372036854775807):zSR (m2 k x) k=ud (k+sm c1 x):=
 zNy (body:=zRh (m2 k x)) (m:=m1) (c:=c1) (t:=zRg) rfl (fun _=>rfl) h.len k0 k1 fun _ hy _ h1 h2=>zKU (h.mem hy) h1 h2
def zMD(x:SPr):Prop:=VL VI x.zA∧VL (VL VI) x.zV∧VL (VL (VL VI)) x.zD
def zSk(x:zC):Prop:=VI x.Prime∧VI x.Dim∧VL (VL (VL VI)) x.zJ
def zJ8(x:SPr):Nat:=c1 x.zA+c2 x.zV+c3 x.zD
def zPw(x:zC):Nat:=c3 x.zJ
def zBg(x:SPr):Prop:=S1 x.zA∧S2 x.zV∧S3 x.zD
def zFS(x:zC):Prop:=S3 x.zJ
theorem zJ9{a b:Nat}{n:Int}:(szR a n<0∧szR (a+b) n= -1)∨(0≤szR a n∧szR a n≤n∧szR b (szR a n)=szR (a+b) n∧(a:Int)≤n)∨n<0:=by unfold szR;omega
theorem zFT{x:SPr}{b:Int}(h:zMD x)(b0:0≤b)(b1:b≤1048576):zS8 x b=ud (szR (zJ8 x) b):=by
 obtain⟨h1,h2,h3⟩:=h;unfold zS8 zJ8;rw[zJ4 h1.1 b0 b1,bs];rcases zJ9 (a:=c1 x.zA) (b:=c2 x.zV+c3 x.zD) (n:=b)with⟨g1,g2⟩|⟨g1,g2,g3,g4⟩|g1
 ·grind
 ·rw[uh (by omega),zM,zCd h2 g1 (by omega),bs,H0,←g3]
  generalize szR (c1 x.zA) b=b' at g1 g2
  rcases zJ9 (a:=c2 x.zV) (b:=c3 x.zD) (n:=b')with⟨k1,k2⟩|⟨k1,k2,k3,k4⟩|k1
  ·grind
  ·rw[uh (by omega),zM,zFO h3 k1 (by omega),bs,←k3]
   generalize szR (c2 x.zV) b'=b'' at k1 k2
   unfold szR
   grind
  ·omega
 ·omega
theorem zPx{x:zC}{b:Int}(h:zSk x)(b0:0≤b)(b1:b≤1048576):zS9 x b=ud (szR (zPw x) b):=by
 obtain⟨_,_,h3⟩:=h;unfold zS9 zPw;rw[zFO h3 b0 b1,bs];unfold szR
 grind
theorem zEY{c:Nat}{b:Int}(_:0≤b)(b1:b≤1048576):(decide (szR c b<0)=uf)∨(decide (szR c b<0)=ug∧0≤szR c b∧szR c b≤1048576∧c≤1048576):=by
 unfold szR
 grind
theorem zBg.of{x:SPr}(h:zJ8 x≤1048576):zBg x:=by unfold zJ8 at h;exact⟨by omega,by omega,by omega⟩
theorem zFS.of{x:zC}(h:zPw x≤1048576):zFS x:=h
theorem zFU{x:SPr}(h:zBg x):zL7 x=ud x:=by unfold zL7;rw[zJ5 h.1,bs,zCe h.2.1,bs,zFP h.2.2,bs]
theorem zPy{x:zC}(h:zFS x):zL8 x=ud x:=by unfold zL8;rw[zFP h,bs]
theorem zPz{x:zC}(h:zFS x):zSN x x=ud uf:=by unfold zSN;rw[zFQ h,bs];simp
theorem zFV{x:SPr}(h:zBg x):zSO x x=ud uf:=by unfold zSO;rw[zJ6 h.1,bs,kE h.2.1,bs,zFQ h.2.2,bs];simp
theorem zFW{x:List (List Int)}:sm c1 x≤c2 x:=by simp
theorem zME{α:Type}{f g:α→Nat}(h:∀x,f x≤g x):∀xs:List α,sm f xs≤sm g xs
 | []=>Jh _
 |x::xs=>by have:=zME h xs;grind[sm]
theorem zKV{x:List (List (List Int))}:sm (sm c1) x≤c3 x:=by
 have:=zME (f:=sm c1) (g:=c2) (fun _=>zFW) x
 grind
theorem zKW{x:zC}{k:Int}(h:zFS x)(k0:0≤k)(k1:k≤1000000000):zSQ x k=ud (k+sm (sm c1) x.zJ,zC.mk x.Prime x.Dim (m3 k x.zJ)):=by
 have g3:=zKV (x:=x.zJ);have h':=h;simp only[zFS,S3]at h'
 grind[zSQ,zD0]
end Go.Pl

namespace Go.Pl
open Go Go.Ab Go.Wk
def IsB(o:Option Bool)(P:Prop):Prop:=(o=ud uf∧P)∨(o=ud ug∧ ¬P)
theorem IsB.iff{o:Option Bool}{P Q:Prop}(h:IsB o P)(hpq:P↔Q):IsB o Q:=by grind
theorem IsB.of_bool{b:Bool}{P:Prop}(h:b=uf↔P):IsB (ud b) P:=by
 cases b
 ·exact .inr (by grind)
 ·exact .inl ⟨rfl,h.1 rfl⟩
theorem chk{ρ:Type}{body:Int→Option (Int⊕(Unit⊕ρ))}(n i0:Nat)(hn:i0≤n)(P:Nat→Prop)(bad:Nat→ρ)
  (h:∀i,i0≤i→i<n→(∀j,i0≤j→j<i→P j)→(body (i:Int)=ud (.inl ((i+1:Nat):Int))∧P i)∨(body (i:Int)=ud (.inr (.inr (bad i)))∧ ¬P i))
  (he:body (n:Int)=ud (.inr (.inl ()))):
  (zI body (i0:Int)=ud (.inl ())∧ ∀j,i0≤j→j<n→P j)∨ ∃i,i0≤i∧i<n∧zI body (i0:Int)=ud (.inr (bad i))∧ ¬P i:=by
 have key:∀k i,i0≤i→i+k=n→(∀j,i0≤j→j<i→P j)→(zI body (i:Int)=ud (.inl ())∧ ∀j,i0≤j→j<n→P j)∨ ∃q,i0≤q∧q<n∧zI body (i:Int)=ud (.inr (bad q))∧ ¬P q:=by
  intro k
  induction k with
  |zero=>
   intro i hi hk hp;obtain rfl:i=n:=by omega
   grind[xK]
  |succ k ih=>
   intro i hi hk hp;rcases h i hi (by omega) hp with⟨h1,h2⟩|⟨h1,h2⟩
   ·have:=ih (i+1) (by omega) (by omega) (by grind)
    rw[xK,h1];exact this
   grind[xK]
 exact key (n-i0) i0 (Jh _) (by omega) fun j a b=>by omega
theorem tU{f:Option Bool}{body:Int→Option (Int⊕(Unit⊕Bool))}(n:Nat)(P:Nat→Prop)
  (hf:f=(zI body 0).bind fun r=>match r with|.inl _=>ud uf|.inr r=>ud r)
  (h:∀i,i<n→(∀j,j<i→P j)→(body (i:Int)=ud (.inl ((i+1:Nat):Int))∧P i)∨(body (i:Int)=ud (.inr (.inr ug))∧ ¬P i))
  (he:body (n:Int)=ud (.inr (.inl ()))):IsB f (∀i,i<n→P i):=by
 rcases chk n 0 (Kn _) P (fun _=>ug) (fun i _ hi hp=>h i hi fun j hj=>hp j (Kn _) hj) he with⟨h1,h2⟩|⟨i,_,hi,h1,h2⟩
 ·refine .inl ⟨?_,fun i hi=>h2 i (Kn _) hi⟩
  rw[hf];rw[show((0:Nat):Int)=0 from rfl]at h1;rw[h1,bs]
 ·refine .inr ⟨?_,fun hp=>h2 (hp i hi)⟩
  rw[hf];rw[show((0:Nat):Int)=0 from rfl]at h1;rw[h1,bs]
theorem vV{o:Option Bool}{P:Prop}{ρ:Type}{bad:ρ}{i:Nat}{g:Option (Int⊕(Unit⊕ρ))}(h:IsB o P)(hi:i<9223372036854775807)
  (hg:g=o.bind fun r=>cond (!r) (ud (.inr (.inr bad))) ((rng ((i:Int)+1)).bind fun v=>ud (.inl v))):(g=ud (.inl ((i+1:Nat):Int))∧P)∨(g=ud (.inr (.inr bad))∧ ¬P):=by
 subst hg;rcases h with⟨h1,h2⟩|⟨h1,h2⟩
 ·refine .inl ⟨?_,h2⟩
  rw[h1,bs,Jc,zM,zE (by omega) (by omega),bs,cs]
 grind
theorem xH{i n:Nat}(h:i<n):decide ((i:Int)<(n:Int))=uf:=by grind
theorem tK{n:Nat}:decide ((n:Int)<(n:Int))=ug:=by simp
theorem jC(x a b:Int):IsB (zLD x a b) (a≤x∧x≤b):=by
 unfold zLD
 by_cases h:x≥a
 ·rw[ui h,zK];grind[IsB.of_bool]
 ·rw[uh h,zM];exact .inr ⟨rfl,by omega⟩
theorem zBE(x a b:Int):IsB (zQj x a b) (a≤x∧x≤b):=jC x a b
def Prime(p:Int):Prop:=p=2∨p=3∨p=5∨p=7
theorem zAT(x:Int):IsB (zNO x) (Prime x):=by
 unfold zNO Prime
 by_cases h2:x=2
 ·subst h2;exact .inl ⟨rfl,.inl rfl⟩
 ·rw[show(x==2)=ug from by grind,zM]
  by_cases h3:x=3
  ·subst h3;exact .inl (by simp)
  ·rw[show(x==3)=ug from by grind,zM]
   by_cases h5:x=5
   ·subst h5;exact .inl (by simp)
   ·rw[show(x==5)=ug from by grind,zM]
    grind[IsB.of_bool]
theorem zFX(x:Int):IsB (zSA x) (Prime x):=zAT x
abbrev at0(v:List Int)(i:Nat):Int:=v.getD i 0
theorem xL{v:List Int}{i:Nat}(h:i<v.length):ixO v (i:Int)=ud (at0 v i):=by rw[jW h,at0,J3,J5 h];rfl
def zW3(os v:List Int):Prop:=v.length=os.length∧ ∀i,i<v.length→0≤at0 v i∧at0 v i≤at0 os i-1
def Exp(os v:List Int)(k:Nat):Prop:=zW3 os v∧ ∀i,i≤k→at0 v i=0
def Os(os:List Int):Prop:=os.length≤9∧ ∀i,i<os.length→Prime (at0 os i)
theorem Prime.pos{p:Int}(h:Prime p):2≤p∧p≤7:=by unfold Prime at h;omega
theorem zEh{x:SPr}{v:List Int}(ho:Os x.zA):IsB (zSG x v) (zW3 x.zA v):=by
 unfold zSG
 by_cases h:v.length=x.zA.length
 ·rw[show((v.length:Int) != (x.zA.length:Int))=ug from by simp[h],zM]
  have h6:=ho.1;refine(tU v.length (fun i=>0≤at0 v i∧at0 v i≤at0 x.zA i-1) rfl (fun i hi _=>?_) ?_).iff ⟨fun g=>⟨h,g⟩,fun g=>g.2⟩
  ·have hp:=(ho.2 i (by omega)).pos
   refine vV (jC _ _ _) (by omega) ?_;unfold zMY;rw[xH hi,zK,xL hi,bs,xL (by omega),bs,zE (by omega) (by omega),bs]
  ·unfold zMY
   simp
 ·rw[show((v.length:Int) != (x.zA.length:Int))=uf from by simp;omega,zK]
  exact .inr ⟨rfl,fun g=>h g.1⟩
theorem zJA{v:List Int}(hl:v.length≤9):IsB (f_Y v) (∀i,i<v.length→at0 v i=0):=by
 refine tU v.length (fun i=>at0 v i=0) rfl (fun i hi _=>?_) ?_
 ·refine vV (o:=ud (at0 v i==0)) (IsB.of_bool (by simp)) (by omega) ?_
  unfold zNP;rw[xH hi,zK,xL hi,bs,bs];rfl
 ·unfold zNP
  simp
theorem zBh{x:SPr}{k:Nat}{v:List Int}(ho:Os x.zA)(hk:k<x.zA.length):IsB (zQ6 x k v) (Exp x.zA v k):=by
 have h6:=ho.1;unfold zQ6;rcases zEh (v:=v) ho with⟨h1,h2⟩|⟨h1,h2⟩
 ·have hl:=h2.1
  rw[h1,bs,zK,zE (by omega) (by omega),bs];have hs:yB v 0 ((k:Int)+1)=ud (v.take (k+1)):=by
   unfold yB
   grind
  rw[hs,bs];have hb:=zJA (v:=v.take (k+1)) (by grind);have cI:(∀i,i<(v.take (k+1)).length→at0 (v.take (k+1)) i=0)↔Exp x.zA v k:=by
   have e:∀i,i≤k→at0 (v.take (k+1)) i=at0 v i:=by grind
   rw[L6,Ur (by omega)];exact⟨fun g=>⟨h2,by grind⟩,fun g i hi=>by rw[e i (by omega)];exact g.2 i (by omega)⟩
  grind
 ·rw[h1,bs,zM]
  exact .inr ⟨rfl,fun g=>h2 g.1⟩
theorem zBF{os v:List Int}{k:Nat}(ho:Os os)(hk:k<os.length):IsB (zQk os v k) (Exp os v k):=by
 have h6:=ho.1;unfold zQk
 by_cases h:v.length=os.length
 ·rw[show((v.length:Int) != (os.length:Int))=ug from by simp[h],zM]
  refine(tU v.length (fun i=>(0≤at0 v i∧at0 v i≤at0 os i-1)∧(i≤k→at0 v i=0)) rfl (fun i hi _=>?_) ?_).iff ⟨fun g=>⟨⟨h,by grind⟩,by grind⟩,fun g i hi=>⟨g.1.2 i hi,fun hk=>g.2 i hk⟩⟩
  ·have hp:=(ho.2 i (by omega)).pos
   unfold zMV;rw[xH hi,zK,xL hi,bs,xL (by omega),bs,zE (by omega) (by omega),bs];rcases zBE (at0 v i) 0 (at0 os i-1)with⟨h1,h2⟩|⟨h1,h2⟩
   ·rw[h1,bs,Jc,zM]
    by_cases h3:(i:Int)≤(k:Int)
    ·rw[ui h3,zK,bs]
     by_cases h4:at0 v i=0
     ·rw[show(at0 v i != 0)=ug from by grind,zM,zE (by omega) (by omega),bs,cs]
      grind
     grind
    ·rw[uh h3,zM,zE (by omega) (by omega),bs,cs]
     grind
   grind
  ·unfold zMV
   simp
 ·rw[show((v.length:Int) != (os.length:Int))=uf from by simp;omega,zK]
  exact .inr ⟨rfl,fun g=>h g.1.1⟩
end Go.Pl

namespace Go.Pl
open Go Go.Ab Go.Wk
theorem zXw{σ ρ:Type}{body:σ→Option (σ⊕(Unit⊕ρ))}(S:Nat→σ)(n i0:Nat)(hn:i0≤n)(P:Nat→Prop)(bad:Nat→ρ)
  (h:∀i,i0≤i→i<n→(∀j,i0≤j→j<i→P j)→(body (S i)=ud (.inl (S (i+1)))∧P i)∨(body (S i)=ud (.inr (.inr (bad i)))∧ ¬P i))
  (he:body (S n)=ud (.inr (.inl ()))):
  (zI body (S i0)=ud (.inl ())∧ ∀j,i0≤j→j<n→P j)∨ ∃i,i0≤i∧i<n∧zI body (S i0)=ud (.inr (bad i))∧ ¬P i:=by
 have key:∀k i,i0≤i→i+k=n→(∀j,i0≤j→j<i→P j)→(zI body (S i)=ud (.inl ())∧ ∀j,i0≤j→j<n→P j)∨ ∃q,i0≤q∧q<n∧zI body (S i)=ud (.inr (bad q))∧ ¬P q:=by
  intro k
  induction k with
  |zero=>
   intro i hi hk hp;obtain rfl:i=n:=by omega
   grind[xK]
  |succ k ih=>
   intro i hi hk hp;rcases h i hi (by omega) hp with⟨h1,h2⟩|⟨h1,h2⟩
   ·have:=ih (i+1) (by omega) (by omega) (by grind)
    rw[xK,h1];exact this
   grind[xK]
 exact key (n-i0) i0 (Jh _) (by omega) fun j a b=>by omega
theorem zBi{a b:Int}(h:a=b):(a != b)=ug:=by simp[h]
theorem zBj{a b:Int}(h:a≠b):(a != b)=uf:=by simp[h]
def pr(os:List Int):Nat→Int
 |0=>1
 |i+1=>pr os i*at0 os i
def cp(os:List Int):Nat→Int
 |0=>1
 |i+1=>if cp os i≤729 then cp os i*at0 os i else cp os i
theorem zFY{os:List Int}:∀{i:Nat},(∀j,j<i→Prime (at0 os j))→1≤pr os i
 |0,_=>by simp[pr]
 |i+1,h=>by have h1:=zFY (os:=os) (i:=i) (by grind);have h2:=(h i (by omega)).pos;simp only[pr];have:(1:Int)*1≤pr os i*at0 os i:=Ks h1 (by omega) (by omega) (by omega);omega
theorem zMF{os:List Int}{i:Nat}(h:∀j,j≤i→Prime (at0 os j)):pr os i≤pr os (i+1):=by have h1:=zFY (os:=os) (i:=i) (by grind);have h2:=(h i (Jh _)).pos;simp only[pr];have:pr os i*1≤pr os i*at0 os i:=H4 (by omega) (by omega);omega
theorem zMG{os:List Int}{n:Nat}(h:∀j,j<n→Prime (at0 os j)):∀k,k≤n→pr os (n-k)≤pr os n
 |0,_=>Int.le_refl _
 |k+1,hk=>by
  have h1:=zMG h k (by omega);have h2:=zMF (os:=os) (i:=n-(k+1)) (by grind)
  grind
theorem zP0{os:List Int}:∀{i:Nat},(∀j,j<i→Prime (at0 os j))→(cp os i=pr os i∧pr os i≤729∨729<cp os i∧cp os i≤5103∧729<pr os i)
 |0,_=>by simp[cp,pr]
 |i+1,h=>by
  have h0:∀j,j<i→Prime (at0 os j):=by grind
  have h2:=(h i (by omega)).pos;have h3:=zMF (os:=os) (i:=i) (by grind);have dl:=zFY h0;simp only[cp];rcases zP0 h0 with⟨h1,h4⟩|⟨h1,h4,h5⟩
  ·rw[h1,if_pos h4]
   have h6:pr os i*at0 os i≤729*7:=Ks h4 h2.2 (by omega) (by omega);simp only[pr]at h3 ⊢
   grind
  omega
def zEC(x:SPr)(i:Nat):Prop:=Exp x.zA (x.zV.getD i []) i∧(x.zD.getD i []).length+i+1=x.zA.length∧ ∀j,j<(x.zD.getD i []).length→Exp x.zA ((x.zD.getD i []).getD j []) i
structure zC1 (x:SPr):Prop where
 os:True∧ ∀i,i<x.zA.length→Prime (at0 x.zA i)
 pl:x.zV.length=x.zA.length
 cl:x.zD.length=x.zA.length
 tl:∀i,i<x.zA.length→zEC x i
structure Pres (x:SPr):Prop where
 os:Os x.zA
 pl:x.zV.length=x.zA.length
 cl:x.zD.length=x.zA.length
 tl:∀i,i<x.zA.length→zEC x i
theorem Pres.w{x:SPr}(h:Pres x):zC1 x:=⟨⟨trivial,h.os.2⟩,h.pl,h.cl,h.tl⟩
structure zED (x:SPr):Prop extends Pres x where
 n6:x.zA.length≤6
 pr:pr x.zA x.zA.length≤729
theorem zY{α:Type}{v:List α}{i:Nat}(d:α)(h:i<v.length):ixO v (i:Int)=ud (v.getD i d):=by grind[jW]
theorem zKX{x:SPr}(ho:Os x.zA)(hp:x.zV.length=x.zA.length)(hc:x.zD.length=x.zA.length){i:Nat}(hi:i<x.zA.length):
  (zLF x i=ud (.inl ((i+1:Nat):Int))∧zEC x i)∨(zLF x i=ud (.inr (.inr ug))∧ ¬zEC x i):=by
 have h6:=ho.1;unfold zLF;rw[xH hi,zK,zY [] (by omega),bs];rcases zBh (v:=x.zV.getD i []) ho hi with⟨h1,h2⟩|⟨h1,h2⟩
 ·rw[h1,bs,Jc,zM,zY [] (by omega),bs,zE (by omega) (by omega),bs,zE (by omega) (by omega),bs]
  by_cases hl:(x.zD.getD i []).length+i+1=x.zA.length
  ·rw[zBi (by omega),zM,bs]
   rcases chk (body:=zQ7 x i (x.zD.getD i [])) (x.zD.getD i []).length 0 (Kn _) (fun j=>Exp x.zA ((x.zD.getD i []).getD j []) i) (fun _=>ug) (fun j _ hj _=>by
     refine vV (zBh ho hi) (by omega) ?_;unfold zQ7;rw[xH hj,zK,zY [] hj,bs]) (by
     unfold zQ7;simp)with⟨g1,g2⟩|⟨j,_,hj,g1,g2⟩
   ·rw[show((0:Nat):Int)=0 from rfl]at g1
    rw[g1,bs];simp only
    rw[zE (by omega) (by omega),bs,cs];exact .inl ⟨rfl,h2,hl,by grind⟩
   ·rw[show((0:Nat):Int)=0 from rfl]at g1
    rw[g1,bs];exact .inr ⟨rfl,fun g=>g2 (g.2.2 j hj)⟩
  ·rw[zBj (by omega),zK]
   exact .inr ⟨rfl,fun g=>hl g.2.1⟩
 ·rw[h1,bs,K2,zK]
  exact .inr ⟨rfl,fun g=>h2 g.1⟩
theorem zKY{x:SPr}(ho:Os x.zA)(hp:x.zV.length=x.zA.length)(hc:x.zD.length=x.zA.length){i:Nat}(hi:i<x.zA.length):
  (zL9 x i=ud (.inl ((i+1:Nat):Int))∧zEC x i)∨(zL9 x i=ud (.inr (.inr ug))∧ ¬zEC x i):=by
 have h6:=ho.1;unfold zL9;rw[xH hi,zK,zY [] (by omega),bs];rcases zBF (v:=x.zV.getD i []) ho hi with⟨h1,h2⟩|⟨h1,h2⟩
 ·rw[h1,bs,Jc,zM,zY [] (by omega),bs,zE (by omega) (by omega),bs,zE (by omega) (by omega),bs]
  by_cases hl:(x.zD.getD i []).length+i+1=x.zA.length
  ·rw[zBi (by omega),zM]
   rcases chk (body:=zQm x i) (x.zD.getD i []).length 0 (Kn _) (fun j=>Exp x.zA ((x.zD.getD i []).getD j []) i) (fun _=>ug) (fun j _ hj _=>by
     refine vV (zBF ho hi) (by omega) ?_;unfold zQm;rw[zY [] (by omega),bs,xH hj,zK,bs,zY [] hj,bs]) (by
     unfold zQm;rw[zY [] (by omega),bs,tK,zM])with⟨g1,g2⟩|⟨j,_,hj,g1,g2⟩
   ·rw[show((0:Nat):Int)=0 from rfl]at g1
    rw[g1,bs];simp only
    rw[zE (by omega) (by omega),bs,cs];exact .inl ⟨rfl,h2,hl,by grind⟩
   ·rw[show((0:Nat):Int)=0 from rfl]at g1
    rw[g1,bs];exact .inr ⟨rfl,fun g=>g2 (g.2.2 j hj)⟩
  ·rw[zBj (by omega),zK]
   exact .inr ⟨rfl,fun g=>hl g.2.1⟩
 ·rw[h1,bs,K2,zK]
  exact .inr ⟨rfl,fun g=>h2 g.1⟩
theorem zJB{x:SPr}(h6:x.zA.length≤6):
  (zI (zLE x) (1,0)=ud (.inl ())∧Os x.zA∧pr x.zA x.zA.length≤729)∨(zI (zLE x) (1,0)=ud (.inr ug)∧ ¬(Os x.zA∧pr x.zA x.zA.length≤729)):=by
 rcases zXw (body:=zLE x) (fun i=>(pr x.zA i,(i:Int))) x.zA.length 0 (Kn _) (fun i=>Prime (at0 x.zA i)∧pr x.zA (i+1)≤729) (fun _=>ug) (fun i _ hi bT=>by
   have hp:∀j,j<i→Prime (at0 x.zA j):=by grind
   have dl:=zFY hp;have fK:pr x.zA i≤729:=by
    cases i with
    |zero=>simp[pr]
    |succ i=>grind
   unfold zLE;rw[xH hi,zK,xL hi,bs];rcases zAT (at0 x.zA i)with⟨h1,h2⟩|⟨h1,h2⟩
   ·have h3:=h2.pos
    have h4:pr x.zA i*at0 x.zA i≤729*7:=Ks fK h3.2 (by omega) (by omega);have h5:1*1≤pr x.zA i*at0 x.zA i:=Ks dl (by omega) (by omega) (by omega);simp only
    rw[h1,bs,Jc,zM,zE (by omega) (by omega),bs]
    by_cases h7:pr x.zA i*at0 x.zA i> 729
    ·rw[ui h7,zK]
     exact .inr ⟨rfl,by grind[pr]⟩
    ·rw[uh h7,zM,bs,zE (by omega) (by omega),bs,cs]
     exact .inl ⟨rfl,h2,by grind[pr]⟩
   grind) (by
   unfold zLE;simp)with⟨g1,g2⟩|⟨i,_,hi,g1,g2⟩
 ·refine .inl ⟨g1,⟨by omega,by grind⟩,?_⟩
  cases hn:x.zA.length with
  |zero=>simp[pr]
  |succ n=>grind
 ·refine .inr ⟨g1,fun⟨h1,h2⟩=>g2 ⟨h1.2 i hi,?_⟩⟩
  have:=zMG (os:=x.zA) (n:=x.zA.length) h1.2 (x.zA.length-(i+1)) (by omega)
  grind
theorem zIm{os:List Int}(ho:Os os):zSB os=ud (cp os os.length):=by
 have h6:=ho.1;unfold zSB;rw[show(1,0)=(fun i=>(cp os i,(i:Int))) 0 from rfl,zR (body:=zKn os) (r:=cp os os.length) (fun i=>(cp os i,(i:Int))) os.length (fun i hi=>by
  have hp:=(ho.2 i hi).pos;have hc:=zP0 (os:=os) (i:=i) fun j hj=>ho.2 j (by omega)
  have dl:=zFY (os:=os) (i:=i) fun j hj=>ho.2 j (by omega)
  unfold zKn;rw[xH hi,zK];simp only[cp]
  by_cases h:cp os i≤729
  ·have h4:cp os i*at0 os i≤729*7:=Ks h hp.2 (by omega) (by omega)
   have h5:1*1≤cp os i*at0 os i:=Ks (by omega) (by omega) (by omega) (by omega);rw[ui h,zK,xL hi,bs,zE (by omega) (by omega),bs,zE (by omega) (by omega),bs,cs,if_pos h]
  ·rw[uh h,zM,zE (by omega) (by omega),bs,cs,if_neg h]) (by
  unfold zKn;simp),bs]
theorem jO{x:SPr}(hl:x.zA.length≤1048576):IsB (f_n x) (zED x):=by
 unfold f_n
 by_cases h6:x.zA.length≤6
 ·rw[uh (by omega),zM]
  by_cases hp:x.zV.length=x.zA.length
  ·rw[zBi (by omega),zM]
   by_cases hc:x.zD.length=x.zA.length
   ·rw[zBi (by omega),zM]
    rcases zJB h6 with⟨h1,h2,h3⟩|⟨h1,h2⟩
    ·rw[h1,bs]
     exact(tU (f:=(zI (zLF x) 0).bind fun r=>match r with|.inl _=>ud uf|.inr r=>ud r) x.zA.length (zEC x) rfl (by grind[zKX]) (by unfold zLF;simp)).iff ⟨fun g=>⟨⟨h2,hp,hc,g⟩,h6,h3⟩,fun g=>g.tl⟩
    ·rw[h1,bs]
     exact .inr ⟨rfl,fun g=>h2 ⟨g.os,g.pr⟩⟩
   ·rw[zBj (by omega),zK]
    exact .inr ⟨rfl,fun g=>hc g.cl⟩
  ·rw[zBj (by omega),zK]
   exact .inr ⟨rfl,fun g=>hp g.pl⟩
 ·rw[ui (by omega),zK]
  exact .inr ⟨rfl,fun g=>h6 g.n6⟩
theorem jP{x:SPr}(hl:x.zA.length≤1048576):IsB (f_t x) (zED x):=by
 unfold f_t
 by_cases h6:x.zA.length≤6
 ·rw[uh (by omega),zM]
  by_cases hp:x.zV.length=x.zA.length
  ·rw[zBi (by omega),zM]
   by_cases hc:x.zD.length=x.zA.length
   ·rw[zBi (by omega),zM]
    rcases chk (body:=zQl x) x.zA.length 0 (Kn _) (fun i=>Prime (at0 x.zA i)) (fun _=>ug) (fun i _ hi _=>by
      refine vV (zFX _) (by omega) ?_;unfold zQl;rw[xH hi,zK,xL hi,bs]) (by
      unfold zQl;simp)with⟨g1,g2⟩|⟨i,_,hi,g1,g2⟩
    ·rw[show((0:Nat):Int)=0 from rfl]at g1
     have ho:Os x.zA:=⟨by omega,by grind⟩;have hcp:=zP0 (os:=x.zA) (i:=x.zA.length) ho.2;rw[g1,bs];simp only
     rw[zIm ho,bs]
     by_cases h7:cp x.zA x.zA.length> 729
     ·rw[ui h7,zK]
      exact .inr ⟨rfl,fun g=>by have:=g.pr;omega⟩
     ·rw[uh h7,zM]
      exact(tU (f:=(zI (zL9 x) 0).bind fun r=>match r with|.inl _=>ud uf|.inr r=>ud r) x.zA.length (zEC x) rfl (by grind[zKY]) (by unfold zL9;simp)).iff ⟨fun g=>⟨⟨ho,hp,hc,g⟩,h6,by omega⟩,fun g=>g.tl⟩
    ·rw[show((0:Nat):Int)=0 from rfl]at g1
     rw[g1,bs];exact .inr ⟨rfl,fun g=>g2 (g.os.2 i hi)⟩
   ·rw[zBj (by omega),zK]
    exact .inr ⟨rfl,fun g=>hc g.cl⟩
  ·rw[zBj (by omega),zK]
   exact .inr ⟨rfl,fun g=>hp g.pl⟩
 ·rw[ui (by omega),zK]
  exact .inr ⟨rfl,fun g=>h6 g.n6⟩
end Go.Pl

namespace Go.Pl
open Go Go.Ab Go.Wk Go.Pc
def lvl(x:SPr)(i:Nat):Lvl:=⟨at0 x.zA i,(x.zV.getD i []).drop (i+1),(x.zD.getD i []).map (·.drop (i+1))⟩
def suf(x:SPr)(k:Nat):Pcp:=(Hy k (x.zA.length-k)).map (lvl x)
theorem yY(x:SPr)(k:Nat):(suf x k).length=x.zA.length-k:=by simp[suf]
theorem zZ{x:SPr}{k:Nat}(h:k<x.zA.length):suf x k=lvl x k::suf x (k+1):=by unfold suf;rw[show x.zA.length-k=(x.zA.length-(k+1))+1 from by omega,He,Jn]
theorem vW{x:SPr}{k:Nat}(h:x.zA.length≤k):suf x k=[]:=by unfold suf;simp_all
theorem zAB{os v:List Int}{k:Nat}(h:Exp os v k)(hk:k<os.length):v=zeros (k+1)++v.drop (k+1):=by
 have h1:=h.1.1;apply Kd;intro i;rw[K8];simp only[zeros,Jy,Js,Ln];split
 ·rename_i hi
  have h2:=h.2 i (by omega)
  grind
 grind
theorem zSl{x:SPr}:∀(d k:Nat)(v:List Int),k+d=x.zA.length→v.length=d→(∀i,i<d→0≤at0 v i∧at0 v i≤at0 x.zA (k+i)-1)→V (suf x k) v
 |0,k,v,hk,hv,_=>by rw[vW (by omega)];simpa[V]using hv
 |d+1,k,v,hk,hv,h=>by
  rw[zZ (by omega)]
  match v,hv with
  |a::v,hv=>
   have h0:=h 0 (by omega);simp only[at0,Gv,Qy]at h0;refine⟨⟨h0.1,by simp only[lvl,at0];omega⟩,zSl d (k+1) v (by omega) (by grind) fun i hi=>?_⟩
   grind
theorem zHr{x:SPr}{v:List Int}{k:Nat}(h:Exp x.zA v k)(hk:k<x.zA.length):V (suf x (k+1)) (v.drop (k+1)):=by
 have h1:=h.1.1;refine zSl (x.zA.length-(k+1)) (k+1) _ (by omega) (by grind) fun i hi=>?_
 have:=h.1.2 (k+1+i) (by omega)
 grind
theorem zC1.ok{x:SPr}(h:zC1 x):∀(d k:Nat),k+d=x.zA.length→Pc.Ok (suf x k)
 |0,k,hk=>by rw[vW (by omega)];simp only[Pc.Ok]
 |d+1,k,hk=>by
  rw[zZ (by omega)];obtain⟨t1,t2,t3⟩:=h.tl k (by omega);refine⟨by simp only[lvl];have:=(h.os.2 k (by omega)).pos;omega,zHr t1 (by omega),?_,fun c hc=>?_,zC1.ok h d (k+1) (by omega)⟩
  ·grind[yY,lvl]
  ·simp only[lvl,Je]at hc
   obtain⟨u,hu,rfl⟩:=hc;obtain⟨j,hj,rfl⟩:=K1.1 hu
   grind[zHr]
theorem zC1.okAt{x:SPr}(h:zC1 x){k:Nat}(hk:k≤x.zA.length):Pc.Ok (suf x k):=h.ok (x.zA.length-k) k (by omega)
theorem Pres.okAt{x:SPr}(h:Pres x){k:Nat}(hk:k≤x.zA.length):Pc.Ok (suf x k):=h.w.okAt hk
theorem zU(n:Nat):(zeros n).length=n:=by simp[zeros]
theorem zEE(k:Nat):zeros (k+1)=zeros k++[0]:=by simp[zeros,G9]
theorem zBk{k:Nat}{a b:Int}{v:Vec}:(zeros k++a::v).set k b=zeros k++b::v:=by rw[Lx _ _ (by grind[zU]),zU,Ka,Kj]
theorem zBl{k:Nat}{a:Int}{v:Vec}:ixO (zeros k++a::v) (k:Int)=ud a:=by rw[vC,Ja (by grind[zU]),zU,Ka];rfl
theorem qN{k:Nat}{v:Vec}:zeros k++0::v=zeros (k+1)++v:=by rw[zEE,J9];rfl
theorem uX{v:List Int}(h:v.length≤1000000):f_o v=ud v:=by grind[f_o,yC]
end Go.Pl

namespace Go.Pl
open Go Go.Ab Go.Wk Go.Pc
theorem zAC{m:Vec→Vec→Vec}:∀(cs:List Vec)(x:Vec)(i:Nat)(acc:Vec),i<cs.length→i<x.length→
  img m (cs.take (i+1)) (x.take (i+1)) acc=iter (at0 x i).toNat (fun v=>m v (cs.getD i [])) (img m (cs.take i) (x.take i) acc)
 | [],_,_,_,h,_=>by simp at h
 |_::_,[],_,_,_,h=>by simp at h
 |c::cs,a::x,0,acc,_,_=>by rfl
 |c::cs,a::x,i+1,acc,h,h'=>by simp only[Ke,img,at0,List.getD_cons_succ];exact zAC cs x i _ (by grind) (by grind)
theorem vD{α β:Type}{body:α×Int→Option ((α×Int)⊕α)}{S:β→Prop}(e:β→α)(g:β→β)(n:Int)(hn:0≤n)(hS:∀a,S a→S (g a))
  (h:∀a(i:Nat),S a→(i:Int)<n→body (e a,(i:Int))=ud (.inl (e (g a),((i+1:Nat):Int))))(he:∀a,S a→body (e a,n)=ud (.inr (e a))){a:β}(ha:S a):
  zI body (e a,0)=ud (e (iter n.toNat g a)):=by
 have er:∀k,S (iter k g a):=fun k=>vB (S:=S) hS k ha
 exact zR (body:=body) (r:=e (iter n.toNat g a)) (fun i=>(e (iter i g a),(i:Int))) n.toNat (by grind[wN]) (by grind)
theorem zJC{k i:Nat}{v:Vec}(h:i<v.length):ixO (zeros k++v) ((k+i:Nat):Int)=ud (at0 v i):=by rw[vC,Ja (by grind[zU]),zU,show k+i-k=i from by omega,J5 h,at0,J3,J5 h];rfl
theorem zCS{x:SPr}(ho:Os x.zA):∀(d k:Nat)(v:List Int),k+d=x.zA.length→V (suf x k) v→v.length=d∧ ∀i,i<d→0≤at0 v i∧at0 v i<at0 x.zA (k+i)∧at0 v i≤6
 |0,k,v,hk,hv=>by
  rw[vW (by omega)]at hv;simp only[V]at hv
  grind
 |d+1,k,v,hk,hv=>by
  rw[zZ (by omega)]at hv
  match v,hv with
  |a::v,hv=>
   obtain⟨h1,h2⟩:=zCS ho d (k+1) v (by omega) hv.2;refine⟨by simp[h1],fun i hi=>?_⟩;cases i with
   |zero=>
    have h3:=hv.1;simp only[lvl]at h3;have:=(ho.2 k (by omega)).pos
    grind
   |succ i=>
    grind
theorem zD1{x:SPr}(h:Pres x){k i:Nat}(hk:k<x.zA.length)(hi:i<x.zA.length-(k+1)):
  ∃c,ixO x.zD (k:Int)=ud (x.zD.getD k [])∧ixO (x.zD.getD k []) (i:Int)=ud (zeros (k+1)++c)∧V (suf x (k+1)) c∧(lvl x k).cs.getD i []=c:=by
 obtain⟨t1,t2,t3⟩:=h.tl k hk;have hc:=h.cl
 grind[zY,zHr,zAB,lvl]
def FAt(x:SPr)(k:Nat)(g:SPr→Int→List Int→List Int→Option (List Int)):Prop:=
 ∀a b,V (suf x k) a→V (suf x k) b→g x k (zeros k++a) (zeros k++b)=ud (zeros k++mul (suf x k) a b)
def FIm(x:SPr)(k:Nat)(g:SPr→Int→List Int→Option (List Int)):Prop:=
 ∀v,V (suf x (k+1)) v→g x k (zeros (k+1)++v)=ud (zeros (k+1)++sig (suf x (k+1)) (lvl x k) v)
theorem zKZ{x:SPr}(h:Pres x){k:Nat}(hk:k<x.zA.length){g:SPr→Int→List Int→List Int→Option (List Int)}(hg:FAt x (k+1) g):FIm x k (b_e g):=by
 intro v hv;have h6:=h.os.1;have ok:=h.okAt (k:=k+1) (by omega);obtain⟨pt,pU⟩:=zCS h.os (x.zA.length-(k+1)) (k+1) v (by omega) hv;have gg:=yY x (k+1);have gI:(lvl x k).cs.length=x.zA.length-(k+1):=by have:=h.okAt (k:=k) (by omega);rw[zZ hk]at this;rw[this.2.2.1,gg]
 have gK:∀c∈(lvl x k).cs,V (suf x (k+1)) c:=by have:=h.okAt (k:=k) (by omega);rw[zZ hk]at this;exact this.2.2.2.1
 have hA:∀i,V (suf x (k+1)) (img (mul (suf x (k+1))) ((lvl x k).cs.take i) (v.take i) (zeros (suf x (k+1)).length)):=fun i=>
  tZ (xE ok) _ _ (by grind) (wD ok)
 unfold b_e;rw[yN (by omega),bs,zE (by omega) (by omega),bs,cs];have hz:J1 x.zA.length (0:Int)=zeros (k+1)++zeros (suf x (k+1)).length:=by rw[gg];simp only[zeros,Jb];congr 1;omega
 rw[hz];have:=zR (body:=zQo g x k (zeros (k+1)++v)) (r:=zeros (k+1)++sig (suf x (k+1)) (lvl x k) v)
  (fun i=>(zeros (k+1)++img (mul (suf x (k+1))) ((lvl x k).cs.take i) (v.take i) (zeros (suf x (k+1)).length),((k+1+i:Nat):Int))) (x.zA.length-(k+1)) (fun i hi=>by
  have hr:=pU i hi;obtain⟨c,c1,c2,c3,c4⟩:=zD1 h hk hi;unfold zQo;rw[ui (by omega),zK];rw[vD (S:=V (suf x (k+1))) (body:=zQn g x k (zeros (k+1)++v) (zeros (k+1)++img (mul (suf x (k+1))) ((lvl x k).cs.take i) (v.take i) (zeros (suf x (k+1)).length),((k+1+i:Nat):Int))) (fun u=>zeros (k+1)++u) (fun u=>mul (suf x (k+1)) u c) (at0 v i) hr.1 (by grind[xE]) (fun u q hu hq=>by
   unfold zQn;simp only
   rw[zJC (by omega),bs,ui hq,zK,zE (by omega) (by omega),bs,c1,bs,zE (by omega) (by omega),bs,zE (by omega) (by omega),bs,
    show(((k+1+i:Nat):Int)-(k:Int)-1)=(i:Int)from by omega,c2,bs,cs,hg u c hu c3,bs,zE (by omega) (by omega),bs,cs]) (fun u hu=>by
   unfold zQn;simp only
   rw[zJC (by omega),bs,uh (by omega),zM]) (hA i),bs,zE (by omega) (by omega),bs,cs]
  rw[zAC _ _ _ _ (by omega) (by omega),c4];rfl) (by
  unfold zQo;rw[uh (by omega),zM,Jq (by omega),Jq (by omega)];rfl)
 grind[img]
theorem zSm{x:SPr}(h:Pres x){k:Nat}(hk:k<x.zA.length){g:SPr→Int→List Int→List Int→Option (List Int)}{gi:SPr→Int→List Int→Option (List Int)}(hg:FAt x (k+1) g)(hi:FIm x k gi):FAt x k (b_a gi g):=by
 intro a b ha hb;have h6:=h.os.1;have hp:=(h.os.2 k hk).pos;have ok:=h.okAt (k:=k+1) (by omega);have ok0:=h.okAt (k:=k) (by omega);obtain⟨mN,har⟩:=zCS h.os (x.zA.length-k) k a (by omega) ha;obtain⟨cf,hbr⟩:=zCS h.os (x.zA.length-k) k b (by omega) hb;rw[zZ hk]at ha hb ok0;obtain⟨a0,a,rfl⟩:∃a0 a',a=a0::a':=by cases a with|nil=>grind|cons p q=>simp
 obtain⟨b0,b,rfl⟩:∃a0 a',b=a0::a':=by cases b with|nil=>grind|cons p q=>simp
 obtain⟨⟨a1,a2⟩,ha⟩:=ha;obtain⟨⟨b1,b2⟩,hb⟩:=hb;have ff:(lvl x k).o=at0 x.zA k:=rfl;rw[ff]at a2 b2;unfold b_a;rw[uh (by omega),zM,uX (by grind[zU]),bs,uX (by simp[zU]at cf ⊢;omega),bs,zBl,bs,zBl,bs,Jd,zBk,zBk,qN,qN];have eF:∀u,V (suf x (k+1)) u→V (suf x (k+1)) (sig (suf x (k+1)) (lvl x k) u):=by grind[zCQ]
 have er:V (suf x (k+1)) (iter b0.toNat (sig (suf x (k+1)) (lvl x k)) a):=vB eF _ ha;rw[vD (S:=V (suf x (k+1))) (fun u=>zeros (k+1)++u) (sig (suf x (k+1)) (lvl x k)) b0 b1 eF (fun u q hu hq=>by
   unfold zSC;simp only
   rw[zBl,bs,ui hq,zK,hi u hu,bs,zE (by omega) (by omega),bs,cs]) (fun u hu=>by
   unfold zSC;simp only
   rw[zBl,bs,uh (by omega),zM]) ha,bs,zE (by omega) (by omega),bs,cs,hg _ _ er hb,bs,bs,bs,zE (by omega) (by omega),bs,xL hk,bs]
 have hm:=xE ok er hb;have bj:=(zCS h.os (x.zA.length-(k+1)) (k+1) _ (by omega) hm).1;have own:∀u,V (suf x (k+1)) u→f_o (zeros (k+1)++u)=ud (zeros (k+1)++u):=fun u hu=>uX (by
  have:=(zCS h.os (x.zA.length-(k+1)) (k+1) _ (by omega) hu).1
  grind[zU])
 rw[zZ hk,yK,ff]
 by_cases hge:a0+b0≥at0 x.zA k
 ·have t1:=(h.tl k hk).1
  have hw:=zHr t1 hk;have hwl:=h.pl;rw[ui hge,zK,if_pos hge,bs,zE (by omega) (by omega),bs,bs,zY [] (by omega),bs,zAB t1 hk,hg _ _ hw hm,bs,own _ (xE ok hw hm),bs];rw[←qN,zBl,bs,zBk];rfl
 ·rw[uh hge,zM,if_neg hge,own _ hm,bs,←qN,zBl,bs,zBk]
theorem zEi{x:SPr}(h:Pres x):∀(d k:Nat),k+d=x.zA.length→(∀m,2*d+1≤m→FAt x k (zLB m))∧(1≤d→ ∀m,2*d≤m→FIm x k (zLA m))
 |0,k,hk=>by
  refine⟨fun m hm a b ha hb=>?_,fun h=>by omega⟩;have h6:=h.os.1;obtain⟨m,rfl⟩:∃m',m=m'+1:=⟨m-1,by omega⟩;show b_a _ _ x k _ _=_;unfold b_a;rw[ui (by omega),zK,yN (by omega),bs,vW (by omega)]
  grind[mul,zeros]
 |d+1,k,hk=>by
  obtain⟨h1,h2⟩:=zEi h d (k+1) (by omega);have hI:∀m,2*(d+1)≤m→FIm x k (zLA m):=fun m hm=>by obtain⟨m,rfl⟩:∃m',m=m'+1:=⟨m-1,by omega⟩;exact zKZ h (by omega) (h1 m (by omega))
  refine⟨fun m hm=>?_,fun _=>hI⟩;obtain⟨m,rfl⟩:∃m',m=m'+1:=⟨m-1,by omega⟩;exact zSm h (by omega) (h1 m (by omega)) (hI m (by omega))
theorem zD2{x:SPr}(h:Pres x){k:Nat}(hk:k≤x.zA.length):FAt x k f_a:=fun a b ha hb=>
 kP (2*(x.zA.length-k)+1) fun m hm=>(zEi h (x.zA.length-k) k (by omega)).1 m hm a b ha hb
theorem zLa{x:SPr}(h:Pres x){k:Nat}(hk:k<x.zA.length):FIm x k f_e:=fun v hv=>
 kP (2*(x.zA.length-k)) fun m hm=>(zEi h (x.zA.length-k) k (by omega)).2 (by omega) m hm v hv
end Go.Pl

namespace Go.Pl
open Go Go.Ab Go.Wk Go.Pc
theorem zBG:∀{P Q:Pcp},Q<:+P→wE P→wE Q
 | [],Q,h,_=>by grind
 |l::P,Q,h,hc=>by
  rcases Q6.1 h with rfl|h
  ·exact hc
  ·exact zBG h hc.1
theorem zHs:∀{P Q:Pcp},Q<:+P→Pc.Ok P→Pc.Ok Q
 | [],Q,h,_=>by grind
 |l::P,Q,h,hc=>by
  rcases Q6.1 h with rfl|h
  ·exact hc
  ·exact zHs h hc.2.2.2.2
theorem zLb(x:SPr)(k:Nat):suf x (k+1)<:+suf x k:=by grind[zZ,vW]
theorem zBH{x:SPr}{k:Nat}(h:wE (suf x k)):∀i,wE (suf x (k+i))
 |0=>h
 |i+1=>zBG (zLb x (k+i)) (zBH h i)
theorem zBI{x:SPr}(h:Pres x){k:Nat}(hk:k≤x.zA.length)(hc:wE (suf x k)):Grp (V (suf x k)) (mul (suf x k)) (zeros (suf x k).length):=zJ3 _ (h.okAt hk) hc
theorem zEZ{x:SPr}:∀(i k:Nat)(v:Vec),k+i≤x.zA.length→V (suf x k) v→ ∃q v',v=q++v'∧q.length=i∧V (suf x (k+i)) v'∧
  ∀a b,V (suf x (k+i)) a→V (suf x (k+i)) b→mul (suf x k) (q++a) (zeros i++b)=q++mul (suf x (k+i)) a b
 |0,k,v,_,hv=>⟨[],v,rfl,rfl,hv,fun a b _ _=>rfl⟩
 |i+1,k,v,hk,hv=>by
  rw[zZ (by omega)]at hv
  match v,hv with
  |e::v,hv=>
   obtain⟨q,v',h1,h2,h3,h4⟩:=zEZ i (k+1) v (by omega) hv.2;rw[show k+1+i=k+(i+1)from by omega]at h3 h4;refine⟨e::q,v',by grind,by simp[h2],h3,fun a b ha hb=>?_⟩;have he:=hv.1;rw[zZ (by omega)];show mul (lvl x k::suf x (k+1)) (e::(q++a)) (0::(zeros i++b))=_;rw[yK,Lp,if_neg (by omega)]
   grind[iter]
def FTV(x:SPr)(k:Nat)(g:SPr→List Int→List Int→Option (List Int)):Prop:=
 ∀p v u,p.length=k→V (suf x k) v→V (suf x k) u→g x (p++v) (zeros k++u)=ud (p++mul (suf x k) v u)
def FTG(x:SPr)(k:Nat)(g:SPr→List Int→Int→Option (List Int)):Prop:=
 ∀p v,p.length=k→V (suf x k) v→g x (p++v) (k:Int)=ud (p++mul (suf x k) v (1::zeros (x.zA.length-(k+1))))
theorem zHt{x:SPr}(h:Pres x){k:Nat}(hk:k<x.zA.length){g:SPr→List Int→List Int→Option (List Int)}(hg:FTV x (k+1) g){t:Vec}(ht:V (suf x (k+1)) t)
  {body1:List Int×Int→Int→List Int×Int→Option ((List Int×Int)⊕List Int)}{body2:List Int×Int→Option ((List Int×Int)⊕List Int)}
  (tw:∀s,body2 s=cond (decide (s.2<(t.length:Int))) ((ixO t s.2).bind fun v17=>(zI (body1 s v17) (s.1,0)).bind fun r=>(rng (s.2+1)).bind fun v=>ud (.inl (r,v))) (ud (.inr s.1)))
  (tx:∀s v q,body1 s v q=cond (decide (q.2<v)) ((ixO x.zD (k:Int)).bind fun cl=>(ixO cl s.2).bind fun c=>(g x q.1 c).bind fun r=>(rng (q.2+1)).bind fun w=>ud (.inl (r,w))) (ud (.inr q.1)))
  {p:Vec}(hp:p.length=k+1){u:Vec}(hu:V (suf x (k+1)) u):zI body2 (p++u,0)=ud (p++img (mul (suf x (k+1))) (lvl x k).cs t u):=by
 have h6:=h.os.1;have ok:=h.okAt (k:=k+1) (by omega);have ok0:=h.okAt (k:=k) (by omega);rw[zZ hk]at ok0;obtain⟨b9,bM⟩:=zCS h.os (x.zA.length-(k+1)) (k+1) t (by omega) ht;have gI:(lvl x k).cs.length=x.zA.length-(k+1):=by rw[ok0.2.2.1,yY]
 have hA:∀i,V (suf x (k+1)) (img (mul (suf x (k+1))) ((lvl x k).cs.take i) (t.take i) u):=fun i=>
  tZ (xE ok) _ _ (fun c hc=>ok0.2.2.2.1 c (by grind)) hu
 have:=zR (body:=body2) (r:=p++img (mul (suf x (k+1))) (lvl x k).cs t u) (fun i=>(p++img (mul (suf x (k+1))) ((lvl x k).cs.take i) (t.take i) u,(i:Int))) t.length (fun i hi=>by
  have hr:=bM i (by omega);obtain⟨c,c1,c2,c3,c4⟩:=zD1 h hk (i:=i) (by omega);rw[tw];simp only
  rw[xH hi,zK,xL hi,bs];rw[vD (S:=V (suf x (k+1))) (fun u=>p++u) (fun u=>mul (suf x (k+1)) u c) (at0 t i) hr.1 (by grind[xE]) (fun u q hu hq=>by
   rw[tx];simp only
   rw[ui hq,zK,c1,bs,c2,bs,hg p u c hp hu c3,bs,zE (by omega) (by omega),bs,cs]) (by grind) (hA i),bs,zE (by omega) (by omega),bs,cs]
  rw[zAC _ _ _ _ (by omega) (by omega),c4]) (by
  grind)
 grind[img]
theorem zT6{p v:Vec}{a:Int}{k:Nat}(hp:p.length=k):ixO (p++a::v) (k:Int)=ud a:=by rw[vC,Ja (by omega),hp,Ka];rfl
theorem p_set{p v:Vec}{a b:Int}{k:Nat}(hp:p.length=k):(p++a::v).set k b=p++b::v:=by simp_all
theorem zJD{x:SPr}(h:Pres x){k:Nat}(hk:k<x.zA.length)(hc:wE (suf x (k+1))){g:SPr→List Int→List Int→Option (List Int)}(hg:FTV x (k+1) g):FTG x k (b_c g):=by
 intro p v hp hv;have h6:=h.os.1;have G:=zBI h (k:=k+1) (by omega) hc;have ok:=h.okAt (k:=k+1) (by omega);have ok0:=h.okAt (k:=k) (by omega);obtain⟨pt,pU⟩:=zCS h.os (x.zA.length-k) k v (by omega) hv;rw[zZ hk]at hv ok0;obtain⟨e,t,rfl⟩:∃a0 a',v=a0::a':=by cases v with|nil=>grind|cons p q=>simp
 obtain⟨⟨e1,e2⟩,ht⟩:=hv;have ff:(lvl x k).o=at0 x.zA k:=rfl;rw[ff]at e2;have ei:=(h.os.2 k hk).pos;have b9:=(zCS h.os (x.zA.length-(k+1)) (k+1) t (by omega) ht).1;have cP:=yY x (k+1);unfold b_c;have hs:yB (p++e::t) ((k+1:Nat):Int) ((p++e::t).length:Int)=ud t:=by
  unfold yB;rw[if_pos (by grind)];have e3:(p++e::t).drop (k+1)=t:=by rw[Ja1,H6 (by omega),hp,show k+1-k=1 from by omega];rfl
  grind[Jd]
 have mI:f_D t=ud t:=by grind[f_D,yC]
 rw[zE (by omega) (by omega),bs,cs,hs,bs,mI,bs];have hz:=zR (body:=zQ8 k t) (r:=(p++[e])++zeros t.length) (fun i=>((p++[e])++(zeros i++t.drop i),(i:Int))) t.length (fun i hi=>by
  have hl:((p++[e])++zeros i).length=k+1+i:=by grind[zU]
  unfold zQ8;simp only
  rw[xH hi,zK,zE (by omega) (by omega),bs,zE (by omega) (by omega),bs,show(k:Int)+1+(i:Int)=((k+1+i:Nat):Int)from by omega,vC,←J9,Ja (by omega),hl,Ka,
   Kx hi,Uk,bs,zE (by omega) (by omega),bs,cs,Jd,Lx _ _ (by omega),hl,Ka,Kj,zEE]
  simp) (by
  unfold zQ8;simp)
 simp only[zeros,Lf,Qk,Jw,J9,Kt]at hz;rw[show((0:Nat):Int)=0 from rfl]at hz;rw[hz,bs,Jd,zT6 hp,bs,zE (by omega) (by omega),bs,bs,p_set hp,zT6 hp,bs,xL hk,bs];have aG:J1 t.length (0:Int)=zeros (suf x (k+1)).length:=by rw[cP,b9];rfl
 rw[zZ hk,yK,ff];have gu:mul (suf x (k+1)) (iter (1:Int).toNat (sig (suf x (k+1)) (lvl x k)) t) (zeros (x.zA.length-(k+1)))=sig (suf x (k+1)) (lvl x k) t:=by rw[←cP];show mul _ (sig (suf x (k+1)) (lvl x k) t) _=_;exact G.oner (zCQ ok0 ht)
 rw[gu,aG]
 by_cases heq:e+1=at0 x.zA k
 ·have t1:=(h.tl k hk).1
  have hw:=zHr t1 hk;have hwl:=h.pl;have ao:(p++[(0:Int)]).length=k+1:=by simp[hp]
  rw[show(e+1==at0 x.zA k)=uf from by grind,zK,if_pos (by omega),bs,zY [] (by omega),bs,p_set hp];have aF:p++0::zeros (suf x (k+1)).length=(p++[0])++zeros (suf x (k+1)).length:=by simp
  rw[aF,zAB t1 hk,hg _ _ _ ao G.ein hw,bs,G.onel hw];rw[zHt (body1:=zUS g x k) (body2:=zUT g x k t) h hk hg ht (fun _=>rfl) (fun _ _ _=>rfl) ao hw,bs];rw[zDz G.toMon _ _ ok0.2.2.2.1 hw,show e+1-at0 x.zA k=0 from by omega];simp only[J9,Kt];rfl
 ·have ao:(p++[e+1]).length=k+1:=by simp[hp]
  rw[show(e+1==at0 x.zA k)=ug from by grind,zM,if_neg (by omega)];have aF:p++(e+1)::zeros (suf x (k+1)).length=(p++[e+1])++zeros (suf x (k+1)).length:=by simp
  rw[aF,zHt (body1:=zUU g x k) (body2:=zUV g x k t) h hk hg ht (fun _=>rfl) (fun _ _ _=>rfl) ao G.ein,bs];simp only[J9,Kt];rfl
theorem jX{n i:Nat}(h:i<n):wI n i=zeros i++1::zeros (n-(i+1)):=by
 have:zeros n=zeros i++0::zeros (n-(i+1)):=by
  simp only[zeros];rw[←K6,Jb]
  grind
 grind[wI,zBk]
theorem zD3(n:Nat):(xU n).length=n:=by simp[xU]
theorem zFZ{n i:Nat}(h:i<n):(xU n).getD i []=wI n i:=by simp[xU,J3,h]
theorem zP1{x:SPr}(h:Pres x){k:Nat}(hk:k≤x.zA.length)(hc:wE (suf x k)){g:SPr→List Int→Int→Option (List Int)}(hg:∀j,k≤j→j<x.zA.length→FTG x j g):FTV x k (b_b g):=by
 intro p v u hp hv hu;have h6:=h.os.1;have G:=zBI h hk hc;have ok:=h.okAt hk;obtain⟨fm,aO⟩:=zCS h.os (x.zA.length-k) k u (by omega) hu;have cP:=yY x k;have hV1:∀j,j≤x.zA.length→j<x.zA.length→V (suf x j) (1::zeros (x.zA.length-(j+1))):=fun j hj c7=>by rw[zZ c7];have:=(h.os.2 j c7).pos;refine⟨⟨by omega,by show 1<at0 x.zA j;omega⟩,?_⟩;rw[←yY];exact wD (h.okAt (by omega))
 have hUn:∀i,i<x.zA.length-k→V (suf x k) (wI (x.zA.length-k) i):=by grind[zCP]
 have hUs:∀c∈xU (x.zA.length-k),V (suf x k) c:=fun c hc=>by
  simp only[xU,Je,Ku]at hc
  grind
 have hA:∀i,V (suf x k) (img (mul (suf x k)) ((xU (x.zA.length-k)).take i) (u.take i) v):=fun i=>
  tZ (xE ok) _ _ (by grind) hv
 have dI:∀i w,i<x.zA.length-k→V (suf x k) w→g x (p++w) ((k+i:Nat):Int)=ud (p++mul (suf x k) w (wI (x.zA.length-k) i)):=fun i w hi hw=>by obtain⟨q,w',h1,h2,h3,h4⟩:=zEZ i k w (by omega) hw;have h5:=hg (k+i) (by omega) (by omega) (p++q) w' (by grind) h3;rw[J9,←h1]at h5;rw[h5,jX hi,h1,show x.zA.length-k-(i+1)=x.zA.length-(k+i+1)from by omega,h4 w' _ h3 (hV1 (k+i) (by omega) (by omega)),J9]
 unfold b_b;have bJ:(zeros k++u).length=x.zA.length:=by grind[zU]
 have:=zR (body:=zQA g x (zeros k++u)) (r:=p++mul (suf x k) v u) (fun j=>(p++img (mul (suf x k)) ((xU (x.zA.length-k)).take (j-k)) (u.take (j-k)) v,(j:Int))) x.zA.length (fun j hj=>by
  unfold zQA;simp only
  rw[bJ,xH hj,zK];rcases Kb j k with hjk|hjk
  ·have e0:ixO (zeros k++u) (j:Int)=ud 0:=by
    rw[vC,Jv (by grind)]
    grind[zeros]
   rw[e0,bs,show j-k=0 from by omega,show j+1-k=0 from by omega];rw[xK];unfold zQ9;simp only
   rw[show decide ((0:Int)<0)=ug from rfl,zM];simp only
   rw[bs,zE (by omega) (by omega),bs,cs]
  ·obtain⟨i,rfl⟩:∃i,j=k+i:=⟨j-k,by omega⟩
   have hi:i<x.zA.length-k:=by omega
   have hr:=aO i hi;rw[zJC (by omega),bs,show k+i-k=i from by omega,show k+i+1-k=i+1 from by omega];rw[vD (S:=V (suf x k)) (fun w=>p++w) (fun w=>mul (suf x k) w (wI (x.zA.length-k) i)) (at0 u i) hr.1 (by grind[xE]) (fun w q hw hq=>by
    unfold zQ9;simp only
    rw[ui hq,zK,dI i w hi hw,bs,zE (by omega) (by omega),bs,cs]) (fun w hw=>by
    unfold zQ9;simp) (hA i),bs,zE (by omega) (by omega),bs,cs]
   rw[zAC _ _ _ _ (by grind[zD3]) (by omega),zFZ hi]) (by
  unfold zQA;simp only
  rw[bJ,tK,zM,Jq (by grind[zD3]),Jq (by omega),zDz G.toMon _ _ hUs hv];have hn:=normal (suf x k) ok (fun Q hQ=>(zJ3 Q (zHs hQ ok) (zBG hQ hc)).toMon) u hu
  grind)
 simp only[Jc2,Ko,img]at this
 grind
theorem zEj{x:SPr}(h:Pres x):∀(d k:Nat),k+d=x.zA.length→wE (suf x k)→(∀m,2*d+1≤m→FTV x k (zNQ m))
 |d,k,hk,hc=>fun m hm=>by
  obtain⟨m,rfl⟩:∃m',m=m'+1:=⟨m-1,by omega⟩;refine zP1 h (by omega) hc fun j hj fZ=>?_
  obtain⟨m,rfl⟩:∃m',m=m'+1:=⟨m-1,by omega⟩;have mJ:wE (suf x (j+1)):=by
   have:=zBH hc (j+1-k)
   grind
  exact zJD h fZ mJ (zEj h (x.zA.length-(j+1)) (j+1) (by omega) mJ m (by omega))
 termination_by d=>d
 decreasing_by omega
theorem zSn{x:SPr}(h:Pres x){k:Nat}(hk:k≤x.zA.length)(hc:wE (suf x k)):FTV x k f_b:=fun p v u hp hv hu=>
 kP (2*(x.zA.length-k)+1) fun m hm=>zEj h (x.zA.length-k) k (by omega) hc m hm p v u hp hv hu
theorem zSo{x:SPr}(h:Pres x){k:Nat}(hk:k<x.zA.length)(hc:wE (suf x (k+1))):FTG x k f_c:=fun p v hp hv=>
 kP (2*(x.zA.length-k)) fun m hm=>by obtain⟨m,rfl⟩:∃m',m=m'+1:=⟨m-1,by omega⟩;exact zJD h hk hc (zEj h (x.zA.length-(k+1)) (k+1) (by omega) hc m (by omega)) p v hp hv
end Go.Pl

namespace Go.Pl
open Go Go.Ab Go.Wk Go.Pc
abbrev fv(k:Nat)(v:Vec):Vec:=zeros k++v
section
variable {x:SPr} (h:Pres x) {k:Nat} (hk:k≤x.zA.length) (hc:wE (suf x k))
 include h hk
theorem sO{v:Vec}(hv:V (suf x k) v):v.length=x.zA.length-k:=(zCS h.os (x.zA.length-k) k v (by omega) hv).1
theorem zAu{v:Vec}(hv:V (suf x k) v):(fv k v).length=x.zA.length:=by grind[zU,sO]
theorem zJE:J1 x.zA.length (0:Int)=fv k (zeros (suf x k).length):=by
 have _:=h;rw[yY];simp only[fv,zeros,Jb];grind
 include hc
theorem zLc{i:Nat}(hi:i<x.zA.length-k):V (suf x k) (wI (x.zA.length-k) i):=by
 have _:=hc;have:=yY x k;rw[←this]at hi ⊢
 exact zCP (h.okAt hk) hi
theorem zJF{p:Vec}(hp:p.length=k){i:Nat}(hi:i<x.zA.length-k){w:Vec}(hw:V (suf x k) w):f_c x (p++w) ((k+i:Nat):Int)=ud (p++mul (suf x k) w (wI (x.zA.length-k) i)):=by
 obtain⟨q,w',h1,h2,h3,h4⟩:=zEZ i k w (by omega) hw;have mJ:wE (suf x (k+i+1)):=zBH hc (i+1);have h5:=zSo h (k:=k+i) (by omega) mJ (p++q) w' (by grind) h3;have h7:V (suf x (k+i)) (1::zeros (x.zA.length-(k+i+1))):=by
  have c7:k+i<x.zA.length:=by omega
  rw[zZ c7];have:=(h.os.2 (k+i) c7).pos;refine⟨⟨by omega,by show 1<at0 x.zA (k+i);omega⟩,?_⟩;rw[←yY];exact wD (h.okAt (by omega))
 grind[jX]
theorem zD4{a b:Vec}(ha:V (suf x k) a)(hb:V (suf x k) b):f_b x (fv k a) (fv k b)=ud (fv k (mul (suf x k) a b)):=
 zSn h hk hc (zeros k) a b (zU k) ha hb
theorem zGa{a:Vec}(ha:V (suf x k) a):f_D (fv k a)=ud (fv k a):=by
 have _:=hc;have:=zAu h hk ha;have h6:=h.os.1
 grind[f_D,yC]
theorem zC2{a b:Vec}(ha:V (suf x k) a)(hb:V (suf x k) b):zI8 x (fv k a) (fv k b)=ud (fv k (mul (suf x k) a b)):=by grind[zI8,zGa,zD4]
theorem zGb{c:Vec}(eI:V (suf x k) c){e:Int}(e0:0≤e)(e1:e≤1000):f_E x (fv k c) e=ud (fv k (pw (mul (suf x k)) (zeros (suf x k).length) c e.toNat)):=by
 have h6:=h.os.1;have ok:=h.okAt hk;unfold f_E;rw[zAu h hk eI,yN (by omega),bs,zJE h hk];rw[vD (S:=V (suf x k)) (body:=zQC x (fv k c) e) (fun u=>fv k u) (fun u=>mul (suf x k) u c) e e0 (by grind[xE]) (fun u i hu hi=>by
  unfold zQC;simp only
  rw[ui hi,zK,zD4 h hk hc hu eI,bs,zE (by omega) (by omega),bs,cs]) (fun u hu=>by
  unfold zQC;simp) (wD ok),bs]
 rfl
theorem zEF{v:Vec}(hv:V (suf x k) v):∃w,V (suf x k) w∧mul (suf x k) v w=zeros (suf x k).length∧f_F x (fv k v)=ud (fv k w):=by
 have h6:=h.os.1;have ok:=h.okAt hk;have G:=zBI h hk hc;have pt:=zAu h hk hv;have cP:=yY x k;unfold f_F;rw[zGa h hk hc hv,bs,pt,yN (by omega),bs,zJE h hk]
 let I:Nat→(List Int×List Int×Int)→Prop:=fun j s=> ∃A w,s=(fv k A,fv k w,(j:Int))∧V (suf x k) A∧V (suf x k) w∧mul (suf x k) v w=A∧ ∃A',A=zeros (j-k)++A'
 have key:=wS (body:=zQF x (fv k v)) (Q:=fun r=> ∃w,V (suf x k) w∧mul (suf x k) v w=zeros (suf x k).length∧r=fv k w) I x.zA.length (fun j s hj hI=>by
  obtain⟨A,w,rfl,hA,hw,hm,A',hA'⟩:=hI;left;unfold zQF;simp only
  rw[pt,xH hj,zK];rcases Kb j k with hjk|hjk
  ·have e0:ixO (fv k A) (j:Int)=ud 0:=by
    grind[vC,zeros]
   rw[xK];unfold zNR;simp only
   rw[e0,bs,show((0:Int) != 0)=ug from rfl,zM];simp only
   rw[bs,zE (by omega) (by omega),bs,cs]
   grind
  ·obtain⟨i,rfl⟩:∃i,j=k+i:=⟨j-k,by omega⟩
   have hi:i<x.zA.length-k:=by omega
   rw[show k+i-k=i from by omega]at hA';have pq:=sO h hk hA;obtain⟨a0,A',rfl⟩:∃p q,A'=p::q:=by
    cases A' with
    |nil=>grind[zU]
    |cons p q=>simp
   have ei:=(h.os.2 (k+i) hj).pos;have inner:=wS (body:=zNR x (fv k A,fv k w,((k+i:Nat):Int))) (s:=(fv k A,fv k w))
    (Q:=fun r=> ∃B u,r=(fv k B,fv k u)∧V (suf x k) B∧V (suf x k) u∧mul (suf x k) v u=B∧ ∃B',B=zeros (i+1)++B')
    (fun q s=> ∃B u b B',s=(fv k B,fv k u)∧V (suf x k) B∧V (suf x k) u∧mul (suf x k) v u=B∧B=zeros i++b::B'∧(b=0∨b=a0+q)) 10 (fun q s hq hs=>by
     obtain⟨B,u,b,B',rfl,hB,hu,bi,cW,hb⟩:=hs;have hz:ixO (fv k B) ((k+i:Nat):Int)=ud b:=by rw[fv,zJC (by grind[sO]),cW,at0,J3,Ja (by rw[zU];omega),zU,Ka];rfl
     unfold zNR;simp only
     rw[hz,bs]
     by_cases dX:b=0
     ·subst dX
      right;rw[show((0:Int) != 0)=ug from rfl,zM];exact⟨_,rfl,B,u,rfl,hB,hu,bi,B',by rw[cW,qN]⟩
     ·left
      have hbq:b=a0+q:=by omega
      rw[show(b != 0)=uf from by grind,zK,zJF h hk hc (zU k) hi hB,bs,zJF h hk hc (zU k) hi hu,bs];have hU:=zLc h hk hc hi;obtain⟨q',v',h1,h2,h3,h4⟩:=zEZ i k B (by omega) hB;have hqv:q'=zeros i∧v'=b::B':=by grind[List.append_inj,zU]
      obtain⟨rfl,rfl⟩:=hqv;have h7:V (suf x (k+i)) (1::zeros (x.zA.length-(k+i+1))):=by rw[zZ hj];refine⟨⟨by omega,by show 1<at0 x.zA (k+i);omega⟩,?_⟩;rw[←yY];exact wD (h.okAt (by omega))
      have h8:=h4 (b::B') _ h3 h7;rw[show x.zA.length-(k+i+1)=x.zA.length-k-(i+1)from by omega,←jX hi,←h1,zZ hj,yK]at h8;refine⟨_,rfl,mul (suf x k) B (wI (x.zA.length-k) i),mul (suf x k) u (wI (x.zA.length-k) i),?_⟩;have ff:(lvl x (k+i)).o=at0 x.zA (k+i):=rfl;rw[ff]at h8
      by_cases hge:b+1≥at0 x.zA (k+i)
      ·rw[if_pos hge]at h8
       refine⟨_,_,rfl,xE ok hB hU,xE ok hu hU,?_,h8,?_⟩
       ·rw[←G.assoc hv hu hU,bi]
       ·left
        rw[zZ hj]at h3;have:=h3.1.2;omega
      ·rw[if_neg hge]at h8
       refine⟨_,_,rfl,xE ok hB hU,xE ok hu hU,?_,h8,?_⟩
       ·rw[←G.assoc hv hu hU,bi]
       omega) (fun s hs=>by
     obtain⟨B,u,b,B',rfl,hB,hu,bi,cW,hb⟩:=hs;have hz:ixO (fv k B) ((k+i:Nat):Int)=ud b:=by rw[fv,zJC (by grind[sO]),cW,at0,J3,Ja (by rw[zU];omega),zU,Ka];rfl
     have hbr:=(zCS h.os (x.zA.length-k) k B (by omega) hB).2 i hi;have ha:=(zCS h.os (x.zA.length-k) k A (by omega) hA).2 i hi;have e1:at0 B i=b:=by rw[cW,at0,J3,Ja (by grind[zU]),zU,Ka];rfl
     have e2:at0 A i=a0:=by rw[hA',at0,J3,Ja (by grind[zU]),zU,Ka];rfl
     have dX:b=0:=by omega
     subst dX;unfold zNR;simp only
     rw[hz,bs,show((0:Int) != 0)=ug from rfl,zM];exact⟨_,rfl,B,u,rfl,hB,hu,bi,B',by rw[cW,qN]⟩) (by grind)
   obtain⟨r,r1,B,u,rfl,hB,hu,bi,B',cW⟩:=inner;rw[r1,bs,zE (by omega) (by omega),bs,cs]
   grind) (fun s hI=>by
  obtain⟨A,w,rfl,hA,hw,hm,A',hA'⟩:=hI;unfold zQF;simp only
  rw[pt,tK,zM];refine⟨_,rfl,w,hw,?_,rfl⟩;have pq:=sO h hk hA;rw[hA',J7,zU]at pq
  grind) (s:=(fv k v,fv k (zeros (suf x k).length),0))
  ⟨v,_,rfl,hv,wD ok,G.oner hv,v,by rw[Jc2];rfl⟩
 grind
theorem kR{a b:Vec}(ha:V (suf x k) a)(hb:V (suf x k) b):∃c,V (suf x k) c∧mul (suf x k) b c=mul (suf x k) a b∧zNS x (fv k a) (fv k b)=ud (fv k c):=by
 have ok:=h.okAt hk;have G:=zBI h hk hc;obtain⟨w,hw,hm,h1⟩:=zEF h hk hc hb;have cV:=xE ok ha hb;refine⟨mul (suf x k) w (mul (suf x k) a b),xE ok hw cV,?_,?_⟩
 ·rw[←G.assoc hb hw cV,hm,G.onel cV]
 grind[zNS,zC2]
end
theorem zCT{a b:List Int}(h:a.length≤1000000):f_Z a b=ud (a==b):=
 zHq (t:=fun u v=>ud (u==v)) (body:=zUW a b) rfl (fun _=>rfl) (by omega) fun _ _ _ _=>rfl
theorem zNz{a b:List Int}(h:a.length≤1000000):zI7 a b=ud (a==b):=zCT h
end Go.Pl

namespace Go.Pl
open Go Go.Ab Go.Wk Go.Pc
theorem zJG{ρ:Type}{body:Int→Option (Int⊕(Unit⊕ρ))}(n i0:Nat)(hn:i0≤n)(P:Nat→Prop)(B:ρ→Prop)
  (h:∀i,i0≤i→i<n→(∀j,i0≤j→j<i→P j)→(body (i:Int)=ud (.inl ((i+1:Nat):Int))∧P i)∨(∃r,body (i:Int)=ud (.inr (.inr r))∧B r∧ ¬P i))
  (he:body (n:Int)=ud (.inr (.inl ()))):
  (zI body (i0:Int)=ud (.inl ())∧ ∀j,i0≤j→j<n→P j)∨ ∃r i,i0≤i∧i<n∧zI body (i0:Int)=ud (.inr r)∧B r∧ ¬P i:=by
 have key:∀k i,i0≤i→i+k=n→(∀j,i0≤j→j<i→P j)→(zI body (i:Int)=ud (.inl ())∧ ∀j,i0≤j→j<n→P j)∨ ∃r q,i0≤q∧q<n∧zI body (i:Int)=ud (.inr r)∧B r∧ ¬P q:=by
  intro k
  induction k with
  |zero=>
   intro i hi hk hp;obtain rfl:i=n:=by omega
   grind[xK]
  |succ k ih=>
   intro i hi hk hp;rcases h i hi (by omega) hp with⟨h1,h2⟩|⟨r,h1,h2,h3⟩
   ·have:=ih (i+1) (by omega) (by omega) (by grind)
    rw[xK,h1];exact this
   ·exact .inr ⟨r,i,hi,by omega,by rw[xK,h1],h2,h3⟩
 exact key (n-i0) i0 (Jh _) (by omega) fun j a b=>by omega
theorem uO{σ ρ:Type}{body:σ→Option (σ⊕ρ)}{Q:ρ→Prop}(I:σ→Prop)(m:σ→Nat)
  (h:∀s,I s→(∃s',body s=ud (.inl s')∧I s'∧m s'<m s)∨ ∃r,body s=ud (.inr r)∧Q r):∀(k:Nat)(s:σ),m s≤k→I s→ ∃r,zI body s=ud r∧Q r
 |k,s,hk,hs=>by
  rcases h s hs with⟨s',h1,h2,h3⟩|⟨r,h1,h2⟩
  ·cases k with
   |zero=>omega
   |succ k=>
    obtain⟨r,h4,h5⟩:=uO I m h k s' (by omega) h2
    grind[xK]
  grind[xK]
theorem zU6{k:Nat}{a b:Vec}:(fv k a==fv k b)=uf↔a=b:=by simp
theorem zBJ{x:SPr}{v:List Int}{i k:Nat}(h:Exp x.zA v i)(hk:k≤i+1)(hn:k≤x.zA.length):v=fv k (v.drop k)∧V (suf x k) (v.drop k):=by
 have h1:=h.1.1;constructor
 ·apply Kd
  intro j;rw[fv,K8];simp only[zeros,Jy,Js,Ln];split
  ·rename_i hj
   have h2:=h.2 j (by omega)
   grind
  grind
 ·refine zSl (x.zA.length-k) k _ (by omega) (by grind) fun j hj=>?_
  have:=h.1.2 (k+j) (by omega)
  grind
structure LC (x:SPr) (k:Nat):Prop where
 c1:∀j,k+1≤j→j<x.zA.length→pw (mul (suf x (k+1))) (zeros (suf x (k+1)).length) ((lvl x k).cs.getD (j-(k+1)) []) (at0 x.zA j).toNat=sig (suf x (k+1)) (lvl x k) ((x.zV.getD j []).drop (k+1))
 c2:∀i,k+1≤i→i<x.zA.length→ ∀j,i+1≤j→j<x.zA.length→
  mul (suf x (k+1)) ((lvl x k).cs.getD (j-(k+1)) []) ((lvl x k).cs.getD (i-(k+1)) [])=mul (suf x (k+1)) ((lvl x k).cs.getD (i-(k+1)) []) (sig (suf x (k+1)) (lvl x k) (((x.zD.getD i []).getD (j-(i+1)) []).drop (k+1)))
 c3:sig (suf x (k+1)) (lvl x k) (lvl x k).w=(lvl x k).w
 c4:∀j,k+1≤j→j<x.zA.length→mul (suf x (k+1)) (lvl x k).w (iter (lvl x k).o.toNat (sig (suf x (k+1)) (lvl x k)) (wI (x.zA.length-(k+1)) (j-(k+1))))=mul (suf x (k+1)) (wI (x.zA.length-(k+1)) (j-(k+1))) (lvl x k).w
section
variable {x:SPr} (h:Pres x) {k:Nat} (hk:k<x.zA.length) (hc:wE (suf x (k+1)))
 include h hk
theorem jD{j:Nat}(h1:k+1≤j)(h2:j<x.zA.length):ixO x.zD (k:Int)=ud (x.zD.getD k [])∧ixO (x.zD.getD k []) ((j:Int)-(k:Int)-1)=ud (fv (k+1) ((lvl x k).cs.getD (j-(k+1)) []))∧V (suf x (k+1)) ((lvl x k).cs.getD (j-(k+1)) []):=by
 obtain⟨c,c1,c2,c3,c4⟩:=zD1 h hk (i:=j-(k+1)) (by omega)
 grind
theorem zP2{j:Nat}(h1:k+1≤j)(h2:j<x.zA.length):ixO x.zV (j:Int)=ud (fv (k+1) ((x.zV.getD j []).drop (k+1)))∧V (suf x (k+1)) ((x.zV.getD j []).drop (k+1)):=by
 have t1:=(h.tl j h2).1;have hl:=h.pl
 grind[zBJ,zY]
theorem zP3{i j:Nat}(h1:k+1≤i)(h2:i+1≤j)(h3:j<x.zA.length):ixO x.zD (i:Int)=ud (x.zD.getD i [])∧ixO (x.zD.getD i []) ((j:Int)-(i:Int)-1)=ud (fv (k+1) (((x.zD.getD i []).getD (j-(i+1)) []).drop (k+1)))∧V (suf x (k+1)) (((x.zD.getD i []).getD (j-(i+1)) []).drop (k+1)):=by
 obtain⟨_,t2,t3⟩:=h.tl i (by omega)
 grind[zBJ,zY]
theorem zSp:ixO x.zV (k:Int)=ud (fv (k+1) (lvl x k).w)∧V (suf x (k+1)) (lvl x k).w:=by have t1:=(h.tl k hk).1;have hl:=h.pl;obtain⟨e1,e2⟩:=zBJ (k:=k+1) t1 (by omega) (by omega);exact⟨by rw[zY [] (by omega)];exact congrArg ud e1,e2⟩
theorem zT7{v:Vec}(hv:V (suf x (k+1)) v):V (suf x (k+1)) (sig (suf x (k+1)) (lvl x k) v):=by
 have ok0:=h.okAt (k:=k) (by omega)
 grind[zZ,zCQ]
theorem zHu{j:Nat}(h1:k+1≤j)(h2:j<x.zA.length):zI9 (x.zA.length:Int) (j:Int)=ud (fv (k+1) (wI (x.zA.length-(k+1)) (j-(k+1)))):=by
 have h6:=h.os.1;unfold zI9;rw[yN (by omega),bs,vC,Js,if_pos h2,bs,Jd]
 congr 1
 rw[fv,jX (by omega),←J9];have e1:zeros (k+1)++zeros (j-(k+1))=zeros j:=by grind[zeros,Jb]
 have e2:J1 x.zA.length (0:Int)=zeros j++0::zeros (x.zA.length-(j+1)):=by simp only[zeros];rw[←K6,Jb];grind
 grind[zBk]
theorem zN0{j:Nat}(h1:k+1≤j)(h2:j<x.zA.length):zKo (x.zA.length:Int) (j:Int)=ud (fv (k+1) (wI (x.zA.length-(k+1)) (j-(k+1)))):=zHu h hk h1 h2
 include hc
theorem jY{v:Vec}(hv:V (suf x (k+1)) v):f_G x k (fv (k+1) v)=ud (fv (k+1) (sig (suf x (k+1)) (lvl x k) v)):=by
 have h6:=h.os.1;have ok:=h.okAt (k:=k+1) (by omega);have ok0:=h.okAt (k:=k) (by omega);rw[zZ hk]at ok0;obtain⟨pt,pU⟩:=zCS h.os (x.zA.length-(k+1)) (k+1) v (by omega) hv;have gI:(lvl x k).cs.length=x.zA.length-(k+1):=by rw[ok0.2.2.1,yY]
 have t2:=(h.tl k hk).2.1;have dR:=h.cl;have hA:∀i,V (suf x (k+1)) (img (mul (suf x (k+1))) ((lvl x k).cs.take i) (v.take i) (zeros (suf x (k+1)).length)):=fun i=>
  tZ (xE ok) _ _ (fun c hc=>ok0.2.2.2.1 c (by grind)) (wD ok)
 unfold f_G;rw[zAu h (by omega) hv,yN (by omega),bs,zY [] (by omega),bs,zJE h (k:=k+1) (by omega)];have:=zR (body:=zQE x k (fv (k+1) v) (x.zD.getD k [])) (r:=fv (k+1) (sig (suf x (k+1)) (lvl x k) v))
  (fun i=>(fv (k+1) (img (mul (suf x (k+1))) ((lvl x k).cs.take i) (v.take i) (zeros (suf x (k+1)).length)),(i:Int))) (x.zD.getD k []).length (fun i hi=>by
  have hr:=pU i (by omega);obtain⟨c,c1,c2,c3,c4⟩:=zD1 h hk (i:=i) (by omega);unfold zQE;simp only
  rw[xH hi,zK,c2,bs,zE (by omega) (by omega),bs,zE (by omega) (by omega),bs,show(k:Int)+1+(i:Int)=((k+1+i:Nat):Int)from by omega,fv,zJC (by omega),bs];rw[vD (S:=V (suf x (k+1))) (body:=zQD x (zeros (k+1)++c) (at0 v i)) (fun u=>fv (k+1) u) (fun u=>mul (suf x (k+1)) u c) (at0 v i) hr.1 (by grind[xE]) (fun u q hu hq=>by
   unfold zQD;simp only
   rw[ui hq,zK,zD4 h (by omega) hc hu c3,bs,zE (by omega) (by omega),bs,cs]) (fun u hu=>by
   unfold zQD;simp) (hA i),bs,zE (by omega) (by omega),bs,cs]
  rw[zAC _ _ _ _ (by omega) (by omega),c4]) (by
  unfold zQE;simp only
  rw[tK,zM,Jq (by omega),Jq (by omega)];rfl)
 simp only[Ko,img]at this
 grind
theorem zBK{a b:Vec}(ha:V (suf x (k+1)) a):IsB (f_Z (fv (k+1) a) (fv (k+1) b)) (a=b):=by
 have _:=hc;have h6:=h.os.1
 grind[zCT,zAu,IsB.of_bool,zU6]
theorem zJH{c:Vec}(eI:V (suf x (k+1)) c){e:Int}(e0:0≤e)(e1:e≤1000):f_K x ((k+1:Nat):Int) (fv (k+1) c) e=ud (fv (k+1) (pw (mul (suf x (k+1))) (zeros (suf x (k+1)).length) c e.toNat)):=by
 have h6:=h.os.1;have ok:=h.okAt (k:=k+1) (by omega);have G:=zBI h (k:=k+1) (by omega) hc;have hA:=zD2 h (k:=k+1) (by omega);have pwV:∀a,V (suf x (k+1)) (pw (mul (suf x (k+1))) (zeros (suf x (k+1)).length) c a):=fun a=>wU G.toMon eI a
 unfold f_K;rw[yN (by omega),bs,zJE h (k:=k+1) (by omega)];obtain⟨r,r1,r2⟩:=uO (body:=zNN x ((k+1:Nat):Int)) (Q:=fun r=>r=fv (k+1) (pw (mul (suf x (k+1))) (zeros (suf x (k+1)).length) c e.toNat))
  (fun s=> ∃(m a q:Nat),s=((m:Int),fv (k+1) (pw (mul (suf x (k+1))) (zeros (suf x (k+1)).length) c a),fv (k+1) (pw (mul (suf x (k+1))) (zeros (suf x (k+1)).length) c q))∧a+q*m=e.toNat∧m≤1000) (fun s=>s.1.toNat) (fun s ⟨m,a,q,hs,he,hm⟩=>by
   subst hs;unfold zNN;simp only
   by_cases hm0:m=0
   ·grind
   ·left
    have hr:uK (m:Int) 2=ud ((m%2:Nat):Int):=by rfl
    have hq:tD (m:Int) 2=ud ((m/2:Nat):Int):=by
     unfold tD;rw[if_neg (by decide),Int.tdiv_eq_ediv_of_nonneg (by omega)]
     grind[zE]
    have bq:=Nat.div_add_mod m 2;have pC:mul (suf x (k+1)) (pw (mul (suf x (k+1))) (zeros (suf x (k+1)).length) c q) (pw (mul (suf x (k+1))) (zeros (suf x (k+1)).length) c q)=pw (mul (suf x (k+1))) (zeros (suf x (k+1)).length) c (q+q):=(zAt G.toMon eI q q).symm;rw[ui (by omega),zK,hr,bs];rcases Nat.mod_two_eq_zero_or_one m with h2|h2
    ·rw[h2,show((((0:Nat):Int))==1)=ug from rfl,zM,hA _ _ (pwV q) (pwV q),bs,hq,bs,pC]
     refine⟨_,rfl,⟨m/2,a,q+q,rfl,?_,by omega⟩,by omega⟩
     grind
    ·rw[h2,show((((1:Nat):Int))==1)=uf from rfl,zK,hA _ _ (pwV a) (pwV q),bs,hA _ _ (pwV q) (pwV q),bs,hq,bs,pC,←zAt G.toMon eI a q]
     refine⟨_,rfl,⟨m/2,a+q,q+q,rfl,?_,by omega⟩,by omega⟩
     grind) 1000000 (e,fv (k+1) (zeros (suf x (k+1)).length),fv (k+1) c) (by omega) ⟨e.toNat,0,1,by rw[zIk G.toMon eI,show((e.toNat:Nat):Int)=e from by omega];rfl,by omega,by omega⟩
 grind
end
end Go.Pl

namespace Go.Pl
open Go Go.Ab Go.Wk Go.Pc
def zW4(o:Option yV)(P:Prop):Prop:=(o=ud (yV.mk 0 0 0 0)∧P)∨ ∃r,o=ud r∧r.Kind≠0∧ ¬P
theorem kb{a b c d:Int}(h:a≠0):(yV.mk a b c d).Kind≠0:=h
abbrev KB(r:yV):Prop:=r.Kind≠0
theorem zAD{o:Option Bool}{P:Prop}{bad:yV}{i:Nat}{g:Option (Int⊕(Unit⊕yV))}(h:IsB o P)(hi:i<9223372036854775807)(hbad:bad.Kind≠0)
  (hg:g=o.bind fun r=>cond (!r) (ud (.inr (.inr bad))) ((rng ((i:Int)+1)).bind fun v=>ud (.inl v))):(g=ud (.inl ((i+1:Nat):Int))∧P)∨(∃r,g=ud (.inr (.inr r))∧KB r∧ ¬P):=by
 rcases vV h hi hg with h|⟨h1,h2⟩
 all_goals grind
section
variable {x:SPr} (h:Pres x) {k:Nat} (hk:k<x.zA.length) (hc:wE (suf x (k+1)))
 include h hk hc
theorem zGc:zW4 (f_k x k) (LC x k):=by
 have h6:=h.os.1;have ok:=h.okAt (k:=k+1) (by omega);have G:=zBI h (k:=k+1) (by omega) hc;obtain⟨w1,w2⟩:=zSp h hk;have p6:∀v,V (suf x (k+1)) v→V (suf x (k+1)) (sig (suf x (k+1)) (lvl x k) v):=by grind[zT7]
 unfold f_k;rw[zE (by omega) (by omega),bs,cs];rcases zJG (body:=zQG x k) x.zA.length (k+1) (by omega) (fun j=>pw (mul (suf x (k+1))) (zeros (suf x (k+1)).length) ((lvl x k).cs.getD (j-(k+1)) []) (at0 x.zA j).toNat=sig (suf x (k+1)) (lvl x k) ((x.zV.getD j []).drop (k+1))) KB (fun j h1 h2 _=>by
   obtain⟨c1,c2,c3⟩:=jD h hk h1 h2;obtain⟨p1,p2⟩:=zP2 h hk h1 h2;have ei:=(h.os.2 j h2).pos;refine zAD (zBK h hk hc (wU G.toMon c3 (at0 x.zA j).toNat)) (by omega) (bad:=yV.mk 1 k j 0) (kb (by decide)) ?_;unfold zQG;rw[xH h2,zK,c1,bs,zE (by omega) (by omega),bs,zE (by omega) (by omega),bs,c2,bs,xL h2,bs,zGb h (by omega) hc c3 (by omega) (by omega),bs,p1,bs,jY h hk hc p2,bs]) (by
   unfold zQG;simp)with⟨g1,g2⟩|⟨r,j,j1,j2,g1,g2,g3⟩
 rotate_left
 ·rw[g1,bs]
  exact .inr ⟨r,rfl,g2,fun q=>g3 (q.c1 j j1 j2)⟩
 rw[g1,bs];simp only
 rw[bs];rcases zJG (body:=zQI x k) x.zA.length (k+1) (by omega) (fun i=> ∀j,i+1≤j→j<x.zA.length→
   mul (suf x (k+1)) ((lvl x k).cs.getD (j-(k+1)) []) ((lvl x k).cs.getD (i-(k+1)) [])=mul (suf x (k+1)) ((lvl x k).cs.getD (i-(k+1)) []) (sig (suf x (k+1)) (lvl x k) (((x.zD.getD i []).getD (j-(i+1)) []).drop (k+1)))) KB (fun i h1 h2 _=>by
   obtain⟨c1,c2,c3⟩:=jD h hk h1 h2;unfold zQI;rw[xH h2,zK,zE (by omega) (by omega),bs,cs];rcases zJG (body:=zQH x k i) x.zA.length (i+1) (by omega) (fun j=>mul (suf x (k+1)) ((lvl x k).cs.getD (j-(k+1)) []) ((lvl x k).cs.getD (i-(k+1)) [])=mul (suf x (k+1)) ((lvl x k).cs.getD (i-(k+1)) []) (sig (suf x (k+1)) (lvl x k) (((x.zD.getD i []).getD (j-(i+1)) []).drop (k+1)))) KB (fun j h3 h4 _=>by
     obtain⟨d1,d2,d3⟩:=jD h hk (j:=j) (by omega) h4;obtain⟨e1,e2,e3⟩:=zP3 h hk h1 h3 h4;obtain⟨q,q1,q2,q3⟩:=kR h (by omega) hc d3 c3;refine zAD ((zBK h hk hc (b:=sig (suf x (k+1)) (lvl x k) (((x.zD.getD i []).getD (j-(i+1)) []).drop (k+1))) q1).iff (Q:=mul (suf x (k+1)) ((lvl x k).cs.getD (j-(k+1)) []) ((lvl x k).cs.getD (i-(k+1)) [])=mul (suf x (k+1)) ((lvl x k).cs.getD (i-(k+1)) []) (sig (suf x (k+1)) (lvl x k) (((x.zD.getD i []).getD (j-(i+1)) []).drop (k+1)))) ?_) (by omega) (bad:=yV.mk 2 k i j) (kb (by decide)) ?_
     ·exact⟨by grind,fun e=>G.cancel_l c3 q1 (p6 _ e3) (by rw[q2,e])⟩
     ·unfold zQH
      rw[xH h4,zK,d1,bs,zE (by omega) (by omega),bs,zE (by omega) (by omega),bs,d2,bs,bs,zE (by omega) (by omega),bs,zE (by omega) (by omega),bs,c2,bs,q3,bs,e1,bs,zE (by omega) (by omega),bs,zE (by omega) (by omega),bs,e2,bs,jY h hk hc e3,bs]) (by
     unfold zQH;simp)with⟨g1,g2⟩|⟨r,j,j1,j2,g1,g2,g3⟩
   ·grind
   grind) (by
   unfold zQI;simp)with⟨k1,k2⟩|⟨r,j,j1,j2,k1,k2,k3⟩
 rotate_left
 ·rw[k1,bs]
  exact .inr ⟨r,rfl,k2,fun q=>k3 (q.c2 j j1 j2)⟩
 rw[k1,bs];simp only
 rw[w1,bs,jY h hk hc w2,bs];rcases zBK h hk hc (b:=(lvl x k).w) (p6 _ w2)with⟨m1,m2⟩|⟨m1,m2⟩
 rotate_left
 ·rw[m1,bs,K2,zK]
  exact .inr ⟨_,rfl,kb (by decide),fun q=>m2 q.c3⟩
 rw[m1,bs,Jc,zM,bs];rcases zJG (body:=zQK x k (fv (k+1) (lvl x k).w)) x.zA.length (k+1) (by omega) (fun j=>mul (suf x (k+1)) (lvl x k).w (iter (lvl x k).o.toNat (sig (suf x (k+1)) (lvl x k)) (wI (x.zA.length-(k+1)) (j-(k+1))))=mul (suf x (k+1)) (wI (x.zA.length-(k+1)) (j-(k+1))) (lvl x k).w) KB (fun j h1 h2 _=>by
   have hU:=zLc h (k:=k+1) (by omega) hc (i:=j-(k+1)) (by omega);have ei:=(h.os.2 k hk).pos;obtain⟨q,q1,q2,q3⟩:=kR h (k:=k+1) (by omega) hc hU w2;have er:V (suf x (k+1)) (iter (lvl x k).o.toNat (sig (suf x (k+1)) (lvl x k)) (wI (x.zA.length-(k+1)) (j-(k+1)))):=vB p6 _ hU;refine zAD ((zBK h hk hc (b:=q) er).iff ⟨by grind,fun e=>G.cancel_l w2 er q1 (by rw[e,q2])⟩) (by omega) (bad:=yV.mk 4 k j 0) (kb (by decide)) ?_;unfold zQK;rw[xH h2,zK,zHu h hk h1 h2,bs,xL hk,bs];rw[vD (S:=V (suf x (k+1))) (body:=zQJ x k (at0 x.zA k)) (fun u=>fv (k+1) u) (sig (suf x (k+1)) (lvl x k)) (at0 x.zA k) (by omega) p6 (fun u i hu hi=>by
    unfold zQJ;simp only
    rw[ui hi,zK,jY h hk hc hu,bs,zE (by omega) (by omega),bs,cs]) (fun u hu=>by
    unfold zQJ;simp) hU,bs,bs,q3,bs]
   rfl) (by
   unfold zQK;simp)with⟨n1,n2⟩|⟨r,j,j1,j2,n1,n2,n3⟩
 ·rw[n1,bs]
  exact .inl ⟨rfl,⟨g2,k2,m2,n2⟩⟩
 ·rw[n1,bs]
  exact .inr ⟨r,rfl,n2,fun q=>n3 (q.c4 j j1 j2)⟩
theorem zLd:zW4 (f_l x k) (LC x k):=by
 have h6:=h.os.1;have ok:=h.okAt (k:=k+1) (by omega);have G:=zBI h (k:=k+1) (by omega) hc;obtain⟨w1,w2⟩:=zSp h hk;have hA:=zD2 h (k:=k+1) (by omega);have hI:=zLa h hk;have p6:∀v,V (suf x (k+1)) v→V (suf x (k+1)) (sig (suf x (k+1)) (lvl x k) v):=by grind[zT7]
 have eqB:∀{a b:Vec},V (suf x (k+1)) a→IsB (zI7 (fv (k+1) a) (fv (k+1) b)) (a=b):=fun ha=>zBK h hk hc ha
 unfold f_l;rw[zE (by omega) (by omega),bs,cs];rcases zJG (body:=zQp x k) x.zA.length (k+1) (by omega) (fun j=>pw (mul (suf x (k+1))) (zeros (suf x (k+1)).length) ((lvl x k).cs.getD (j-(k+1)) []) (at0 x.zA j).toNat=sig (suf x (k+1)) (lvl x k) ((x.zV.getD j []).drop (k+1))) KB (fun j h1 h2 _=>by
   obtain⟨c1,c2,c3⟩:=jD h hk h1 h2;obtain⟨p1,p2⟩:=zP2 h hk h1 h2;have ei:=(h.os.2 j h2).pos;refine zAD (eqB (wU G.toMon c3 (at0 x.zA j).toNat)) (by omega) (bad:=yV.mk 1 k j 0) (kb (by decide)) ?_;unfold zQp;rw[xH h2,zK,zE (by omega) (by omega),bs,cs,c1,bs,zE (by omega) (by omega),bs,zE (by omega) (by omega),bs,c2,bs,xL h2,bs,zJH h hk hc c3 (by omega) (by omega),bs,p1,bs,hI _ p2,bs]) (by
   unfold zQp;simp)with⟨g1,g2⟩|⟨r,j,j1,j2,g1,g2,g3⟩
 rotate_left
 ·rw[g1,bs]
  exact .inr ⟨r,rfl,g2,fun q=>g3 (q.c1 j j1 j2)⟩
 rw[g1,bs];simp only
 rw[bs];rcases zJG (body:=zQr x k) x.zA.length (k+1) (by omega) (fun i=> ∀j,i+1≤j→j<x.zA.length→
   mul (suf x (k+1)) ((lvl x k).cs.getD (j-(k+1)) []) ((lvl x k).cs.getD (i-(k+1)) [])=mul (suf x (k+1)) ((lvl x k).cs.getD (i-(k+1)) []) (sig (suf x (k+1)) (lvl x k) (((x.zD.getD i []).getD (j-(i+1)) []).drop (k+1)))) KB (fun i h1 h2 _=>by
   obtain⟨c1,c2,c3⟩:=jD h hk h1 h2;unfold zQr;rw[xH h2,zK,zE (by omega) (by omega),bs,cs];rcases zJG (body:=zQq x k i) x.zA.length (i+1) (by omega) (fun j=>mul (suf x (k+1)) ((lvl x k).cs.getD (j-(k+1)) []) ((lvl x k).cs.getD (i-(k+1)) [])=mul (suf x (k+1)) ((lvl x k).cs.getD (i-(k+1)) []) (sig (suf x (k+1)) (lvl x k) (((x.zD.getD i []).getD (j-(i+1)) []).drop (k+1)))) KB (fun j h3 h4 _=>by
     obtain⟨d1,d2,d3⟩:=jD h hk (j:=j) (by omega) h4;obtain⟨e1,e2,e3⟩:=zP3 h hk h1 h3 h4;refine zAD (eqB (xE ok d3 c3)) (by omega) (bad:=yV.mk 2 k i j) (kb (by decide)) ?_;unfold zQq;rw[xH h4,zK,d1,bs,zE (by omega) (by omega),bs,zE (by omega) (by omega),bs,c2,bs,bs,zE (by omega) (by omega),bs,zE (by omega) (by omega),bs,d2,bs,e1,bs,zE (by omega) (by omega),bs,zE (by omega) (by omega),bs,e2,bs,hI _ e3,bs,zE (by omega) (by omega),bs,cs,hA _ _ d3 c3,bs,bs,hA _ _ c3 (p6 _ e3),bs]) (by
     unfold zQq;simp)with⟨g1,g2⟩|⟨r,j,j1,j2,g1,g2,g3⟩
   ·grind
   grind) (by
   unfold zQr;simp)with⟨k1,k2⟩|⟨r,j,j1,j2,k1,k2,k3⟩
 rotate_left
 ·rw[k1,bs]
  exact .inr ⟨r,rfl,k2,fun q=>k3 (q.c2 j j1 j2)⟩
 rw[k1,bs];simp only
 rw[w1,bs,hI _ w2,bs];rcases eqB (b:=(lvl x k).w) (p6 _ w2)with⟨m1,m2⟩|⟨m1,m2⟩
 rotate_left
 ·rw[m1,bs,K2,zK]
  exact .inr ⟨_,rfl,kb (by decide),fun q=>m2 q.c3⟩
 rw[m1,bs,Jc,zM,bs];rcases zJG (body:=zQt x k (fv (k+1) (lvl x k).w)) x.zA.length (k+1) (by omega) (fun j=>mul (suf x (k+1)) (lvl x k).w (iter (lvl x k).o.toNat (sig (suf x (k+1)) (lvl x k)) (wI (x.zA.length-(k+1)) (j-(k+1))))=mul (suf x (k+1)) (wI (x.zA.length-(k+1)) (j-(k+1))) (lvl x k).w) KB (fun j h1 h2 _=>by
   have hU:=zLc h (k:=k+1) (by omega) hc (i:=j-(k+1)) (by omega);have ei:=(h.os.2 k hk).pos;have er:V (suf x (k+1)) (iter (lvl x k).o.toNat (sig (suf x (k+1)) (lvl x k)) (wI (x.zA.length-(k+1)) (j-(k+1)))):=vB p6 _ hU;refine zAD (eqB (xE ok w2 er)) (by omega) (bad:=yV.mk 4 k j 0) (kb (by decide)) ?_;unfold zQt;rw[xH h2,zK,zN0 h hk h1 h2,bs];rw[vD (S:=V (suf x (k+1))) (body:=zQs x k) (fun u=>fv (k+1) u) (sig (suf x (k+1)) (lvl x k)) (at0 x.zA k) (by omega) p6 (fun u i hu hi=>by
    unfold zQs;simp only
    rw[xL hk,bs,ui hi,zK,hI _ hu,bs,zE (by omega) (by omega),bs,cs]) (fun u hu=>by
    unfold zQs;simp only
    rw[xL hk,bs,uh (by omega),zM]) hU,bs,zE (by omega) (by omega),bs,cs]
   have ho:(lvl x k).o=at0 x.zA k:=rfl;rw[←ho,hA _ _ w2 er,bs,bs,hA _ _ hU w2,bs]) (by
   unfold zQt;simp)with⟨n1,n2⟩|⟨r,j,j1,j2,n1,n2,n3⟩
 ·rw[n1,bs]
  exact .inl ⟨rfl,⟨g2,k2,m2,n2⟩⟩
 ·rw[n1,bs]
  exact .inr ⟨r,rfl,n2,fun q=>n3 (q.c4 j j1 j2)⟩
end
end Go.Pl

namespace Go.Pl
open Go Go.Ab Go.Wk Go.Pc
theorem zEk{m:Vec→Vec→Vec}:∀(i:Nat)(cs:List Vec)(w acc:Vec),i≤cs.length→img m cs (zeros i++w) acc=img m (cs.drop i) w acc
 |0,cs,w,acc,_=>rfl
 |i+1,[],w,acc,h=>by simp at h
 |i+1,c::cs,w,acc,h=>by show img m (c::cs) (0::(zeros i++w)) acc=_;simp only[img,Hg,iter,List.drop_succ_cons];exact zEk i cs w acc (by grind)
theorem zGd{x:SPr}{v:List Int}{j k:Nat}(h:Exp x.zA v j)(hj:j<x.zA.length)(hk:k≤j+1):v.drop k=zeros (j+1-k)++v.drop (j+1):=by
 have:=zAB h hj
 grind[zeros]
section
variable {x:SPr} (h:zC1 x) {k:Nat} (hk:k<x.zA.length)
 include h hk
theorem kF:(lvl x k).cs.length=x.zA.length-(k+1):=by have ok0:=h.okAt (k:=k) (by omega);rw[zZ hk]at ok0;rw[ok0.2.2.1,yY]
theorem zSq{j:Nat}(h1:k+1≤j)(h2:j<x.zA.length):sig (suf x (k+1)) (lvl x k) ((x.zV.getD j []).drop (k+1))=img (mul (suf x (k+1))) ((lvl x k).cs.drop (j-k)) (lvl x j).w (zeros (suf x (k+1)).length):=by have t1:=(h.tl j h2).1;have gI:=kF h hk;rw[zGd t1 h2 (by omega),sig,zEk _ _ _ _ (by omega),show j+1-(k+1)=j-k from by omega];rfl
theorem zMH:∀(d i:Nat),k+1+i+d=x.zA.length→(Rel (mul (suf x (k+1))) (zeros (suf x (k+1)).length) (suf x (k+1+i)) ((lvl x k).cs.drop i)↔
  (∀j,k+1+i≤j→j<x.zA.length→pw (mul (suf x (k+1))) (zeros (suf x (k+1)).length) ((lvl x k).cs.getD (j-(k+1)) []) (at0 x.zA j).toNat=sig (suf x (k+1)) (lvl x k) ((x.zV.getD j []).drop (k+1)))∧
  (∀a,k+1+i≤a→a<x.zA.length→ ∀j,a+1≤j→j<x.zA.length→
   mul (suf x (k+1)) ((lvl x k).cs.getD (j-(k+1)) []) ((lvl x k).cs.getD (a-(k+1)) [])=mul (suf x (k+1)) ((lvl x k).cs.getD (a-(k+1)) []) (sig (suf x (k+1)) (lvl x k) (((x.zD.getD a []).getD (j-(a+1)) []).drop (k+1)))))
 |0,i,hi=>by
  have gI:=kF h hk;rw[vW (x:=x) (k:=k+1+i) (by omega),H6 (by omega)];simp only[Rel,true_iff]
  grind
 |d+1,i,hi=>by
  have gI:=kF h hk;have ih:=zMH d (i+1) (by omega);rw[show k+1+(i+1)=k+1+i+1 from by omega]at ih;have hj:k+1+i<x.zA.length:=by omega
  have hg:(lvl x k).cs.drop i=(lvl x k).cs.getD i []::(lvl x k).cs.drop (i+1):=by rw[Kx (by omega),J3,J5 (by omega)];rfl
  rw[zZ hj,hg];simp only[Rel];rw[ih];have e1:=zSq h hk (j:=k+1+i) (by omega) hj;rw[show k+1+i-k=i+1 from by omega]at e1;have ho:(lvl x (k+1+i)).o=at0 x.zA (k+1+i):=rfl;rw[ho,←e1];have e2:∀j,k+1+i+1≤j→j<x.zA.length→ ∀dd,(lvl x (k+1+i)).cs[j-(k+1+i+1)]? =ud dd→img (mul (suf x (k+1))) ((lvl x k).cs.drop (i+1)) dd (zeros (suf x (k+1)).length)=sig (suf x (k+1)) (lvl x k) (((x.zD.getD (k+1+i) []).getD (j-(k+1+i+1)) []).drop (k+1)):=fun j h1 h2 dd dM=>by
   obtain⟨_,t2,t3⟩:=h.tl (k+1+i) hj;have t:=t3 (j-(k+1+i+1)) (by omega);rw[zGd t hj (by omega),sig,zEk _ _ _ _ (by omega),show k+1+i+1-(k+1)=i+1 from by omega]
   congr 1
   simp only[lvl,Jo,Jz]at dM
   grind
  have e3:∀j,k+1+i+1≤j→j<x.zA.length→((lvl x k).cs.drop (i+1))[j-(k+1+i+1)]? =ud ((lvl x k).cs.getD (j-(k+1)) [])∧ ∃dd,(lvl x (k+1+i)).cs[j-(k+1+i+1)]? =ud dd:=fun j h1 h2=>by
   have dR:=kF h hj;refine⟨?_,?_⟩
   ·rw[Ln,show i+1+(j-(k+1+i+1))=j-(k+1)from by omega,J3,J5 (by omega)];rfl
   ·exact⟨_,J5 (by omega)⟩
  constructor
  ·rintro⟨a1,a2,a3,a4⟩
   refine⟨fun j h1 h2=>?_,fun a h1 h2 j h3 h4=>?_⟩
   ·rcases Kb (k+1+i) j with gT|hge
    ·grind
    ·obtain rfl:j=k+1+i:=by omega
     rw[show k+1+i-(k+1)=i from by omega];exact a1
   ·rcases Kb (k+1+i) a with gT|hge
    ·exact a4 a (by omega) h2 j h3 h4
    ·obtain rfl:a=k+1+i:=by omega
     obtain⟨f1,dd,f2⟩:=e3 j (by omega) h4;have:=a2 _ _ _ f1 f2;rw[e2 j (by omega) h4 dd f2]at this;rw[show k+1+i-(k+1)=i from by omega];exact this
  ·rintro⟨a1,a2⟩
   refine⟨?_,fun kk c dd h1 h2=>?_,by grind,by grind⟩
   ·have:=a1 (k+1+i) (by omega) hj
    rw[show k+1+i-(k+1)=i from by omega]at this;exact this
   ·have gT:kk<x.zA.length-(k+1+i+1):=by
     have:=(Jg.1 h1).1;rw[Us]at this;omega
    have g:=a2 (k+1+i) (by omega) hj (k+1+i+1+kk) (by omega) (by omega);obtain⟨f1,_⟩:=e3 (k+1+i+1+kk) (by omega) (by omega);rw[show k+1+i+1+kk-(k+1+i+1)=kk from by omega]at f1 g;rw[h1]at f1;have f1:=U4.inj f1;have g2:=e2 (k+1+i+1+kk) (by omega) (by omega) dd (by rw[show k+1+i+1+kk-(k+1+i+1)=kk from by omega];exact h2);rw[show k+1+i+1+kk-(k+1+i+1)=kk from by omega]at g2;rw[g2,f1];rw[show k+1+i-(k+1)=i from by omega]at g;exact g
theorem zAE:wE (suf x k)↔wE (suf x (k+1))∧LC x k:=by
 have hr:=zMH h hk (x.zA.length-(k+1)) 0 (by omega);have hl:=yY x (k+1);rw[Qk,Qy]at hr;rw[zZ hk];simp only[wE];rw[hr];constructor
 ·rintro⟨a,⟨b1,b2⟩,c,d⟩
  refine⟨a,⟨b1,b2,c,fun j h1 h2=>?_⟩⟩
  grind
 ·rintro⟨a,b⟩
  refine⟨a,⟨b.c1,b.c2⟩,b.c3,fun j hj=>?_⟩;have:=b.c4 (k+1+j) (by omega) (by omega);rw[show k+1+j-(k+1)=j from by omega]at this
  rwa [hl]
end
theorem zCf{x:SPr}(h:wE (suf x 0))(k:Nat):wE (suf x k):=by
 have:=zBH h k
 grind
def zAU(x:SPr):Prop:=Pres x∧wE (suf x 0)∧zED x
theorem zD5{x:SPr}(hl:x.zA.length≤1048576):IsB (zSH x) (zAU x):=by
 unfold zSH;rcases jO hl with⟨h1,h2⟩|⟨h1,h2⟩
 ·have h6:=h2.os.1
  rw[h1,bs,zK];unfold f_S;obtain⟨r,r1,r2⟩:=wS (body:=zKs x) (Q:=fun r=> ∃s:Nat,r=(s:Int)∧wE (suf x s)∧(s=0∨ ¬wE (suf x (s-1)))) (fun i s=>i≤x.zA.length∧s=((x.zA.length-i:Nat):Int)∧wE (suf x (x.zA.length-i))) x.zA.length (fun i s hi ⟨_,hs,gK⟩=>by
    subst hs;have hk:x.zA.length-i-1<x.zA.length:=by omega
    have e9:x.zA.length-(i+1)=x.zA.length-i-1:=by omega
    rw[e9];have e8:i+1≤x.zA.length:=by omega
    rw[show x.zA.length-i=x.zA.length-i-1+1 from by omega]at gK ⊢
    have cH:=zGc h2.toPres hk gK;have cI:=zAE h2.toPres.w hk
    generalize x.zA.length-i-1=k at*
    unfold zKs;rw[ui (by omega),zK,zE (by omega) (by omega),bs,show(((k+1:Nat):Int)-1)=(k:Int)from by omega];rcases cH with⟨g1,g2⟩|⟨r,g1,g2,g3⟩
    ·simp_all
    grind) (fun s ⟨_,hs,gK⟩=>by
    rw[Ka]at hs gK;subst hs;unfold zKs
    grind) (s:=(x.zA.length:Int)) ⟨by omega,by rfl,by rw[Jc3,vW (by omega)];simp only[wE]⟩
  obtain⟨s,rfl,gK,hs⟩:=r2;rw[r1,bs,bs];cases s with
  |zero=>exact .inl ⟨rfl,h2.toPres,gK,h2⟩
  |succ s=>
   refine .inr ⟨?_,fun q=>?_⟩
   ·congr 1
   ·rcases hs with hs|hs
    ·omega
    ·exact hs (zCf q.2.1 _)
 ·rw[h1,bs,zM]
  exact .inr ⟨rfl,fun q=>h2 q.2.2⟩
theorem zLe{x:SPr}(hl:x.zA.length≤1048576):IsB (zSD x) (zAU x):=by
 unfold zSD;rcases jP hl with⟨h1,h2⟩|⟨h1,h2⟩
 ·have h6:=h2.os.1
  rw[h1,bs,zK];unfold zUR zUQ;rw[zE (by omega) (by omega),bs];obtain⟨r,r1,r2⟩:=wS (body:=zKp x) (Q:=fun r=>(r=.inl ()∧wE (suf x 0))∨ ∃f,r=.inr f∧f.Kind≠0∧ ¬wE (suf x 0)) (fun i s=>i≤x.zA.length∧s=((x.zA.length-i:Nat):Int)-1∧wE (suf x (x.zA.length-i))) x.zA.length (fun i s hi ⟨_,hs,gK⟩=>by
    subst hs;have hk:x.zA.length-i-1<x.zA.length:=by omega
    have e9:x.zA.length-(i+1)=x.zA.length-i-1:=by omega
    rw[e9];have e8:i+1≤x.zA.length:=by omega
    rw[show x.zA.length-i=x.zA.length-i-1+1 from by omega]at gK ⊢
    have cH:=zLd h2.toPres hk gK;have cI:=zAE h2.toPres.w hk
    generalize x.zA.length-i-1=k at*
    unfold zKp;rw[show(((k+1:Nat):Int)-1)=(k:Int)from by omega,ui (by omega),zK];rcases cH with⟨g1,g2⟩|⟨r,g1,g2,g3⟩
    ·left
     rw[g1,bs];simp only
     rw[show((0:Int) != 0)=ug from rfl,zM,zE (by omega) (by omega),bs]
     grind
    ·right
     rw[g1,bs,show(r.Kind != 0)=uf from by grind,zK];exact⟨_,rfl,.inr ⟨r,rfl,g2,by grind[zCf]⟩⟩) (fun s ⟨_,hs,gK⟩=>by
    rw[Ka]at hs gK;subst hs;unfold zKp
    grind) (s:=(x.zA.length:Int)-1) ⟨by omega,by rfl,by rw[Jc3,vW (by omega)];simp only[wE]⟩
  rw[r1,bs];rcases r2 with⟨rfl,q⟩|⟨f,rfl,g1,g2⟩
  ·exact .inl ⟨rfl,h2.toPres,q,h2⟩
  ·simp only
   rw[bs,show(f.Kind==0)=ug from by grind];exact .inr ⟨rfl,fun q=>g2 q.2.1⟩
 ·rw[h1,bs,zM]
  exact .inr ⟨rfl,fun q=>h2 q.2.2⟩
end Go.Pl

namespace Go.Pl
open Go Go.Ab Go.Wk
abbrev Mx:=List (List Int)
def S:Nat→(Nat→Int)→Int
 |0,_=>0
 |n+1,f=>S n f+f n
theorem zCg{n:Nat}{f g:Nat→Int}(h:∀i,i<n→f i=g i):S n f=S n g:=by
 induction n with
 |zero=>rfl
 |succ n ih=>grind[S]
theorem zJI{p:Int}{f g:Nat→Int}:∀{n:Nat},(∀i,i<n→f i%p=g i%p)→S n f%p=S n g%p
 |0,_=>rfl
 |n+1,h=>by simp only[S];rw[Ue,zJI (n:=n) fun i hi=>h i (by omega),h n (by omega),←Ue]
theorem zIn:∀n:Nat,S n (fun _=>0)=0
 |0=>rfl
 |n+1=>by simp only[S,zIn n];rfl
theorem zT8{f g:Nat→Int}:∀n:Nat,S n (fun i=>f i+g i)=S n f+S n g
 |0=>rfl
 |n+1=>by simp only[S,zT8 n];omega
theorem zP4{f:Nat→Int}(a:Int):∀n:Nat,S n (fun i=>f i*a)=S n f*a
 |0=>by simp[S]
 |n+1=>by simp only[S,zP4 a n,Jcb]
theorem zLf{f:Nat→Int}(a:Int):∀n:Nat,S n (fun i=>a*f i)=a*S n f
 |0=>by simp[S]
 |n+1=>by simp only[S,zLf a n,Jca]
theorem zLg{f:Nat→Nat→Int}(m:Nat):∀n:Nat,S n (fun i=>S m (fun j=>f i j))=S m (fun j=>S n (fun i=>f i j))
 |0=>by simp only[S];grind[zIn]
 |n+1=>by simp only[S];rw[zLg m n,zT8]
theorem zGe{f:Nat→Int}{k:Nat}:∀{n:Nat},k<n→(∀i,i<n→i≠k→f i=0)→S n f=f k
 |0,h,_=>by omega
 |n+1,h,hz=>by
  simp only[S]
  by_cases hk:k=n
  ·subst hk
   rw[zCg (g:=fun _=>0) fun i hi=>hz i (by omega) (by omega),zIn];omega
  ·rw[zGe (n:=n) (by omega) fun i hi=>hz i (by omega),hz n (by omega) (by omega)];omega
def mkv(D:Nat)(f:Nat→Int):List Int:=(Jk D).map f
theorem yW(D:Nat)(f:Nat→Int):(mkv D f).length=D:=by simp[mkv]
theorem zCh{D:Nat}{f:Nat→Int}{i:Nat}(h:i<D):(mkv D f)[i]? =ud (f i):=by simp[mkv,h]
theorem wF{D:Nat}{f:Nat→Int}{i:Nat}(h:i<D):at0 (mkv D f) i=f i:=by rw[at0,J3,zCh h];rfl
theorem xI{D:Nat}{f g:Nat→Int}(h:∀i,i<D→f i=g i):mkv D f=mkv D g:=by grind[mkv,Ja7]
theorem zD6{D:Nat}{f:Nat→Int}{j:Nat}{a:Int}:(mkv D f).set j a=mkv D (fun i=>if i=j then a else f i):=by
 apply Kd;intro i;rw[Jaf,yW]
 by_cases hi:i<D
 ·by_cases hij:j=i
  ·subst hij;rw[if_pos rfl,if_pos hi,zCh hi,if_pos rfl]
  ·rw[if_neg hij,zCh hi,zCh hi,if_neg fun h=>hij h.symm]
 ·have h1:∀g:Nat→Int,(mkv D g)[i]? =ue:=by grind[yW]
  grind
theorem sK{v:List Int}{D:Nat}(h:v.length=D):v=mkv D (at0 v):=by
 apply Kd;intro i
 by_cases hi:i<D
 ·rw[zCh hi,at0,J3,J5 (by omega)];rfl
 grind[yW]
theorem jE(D:Nat):J1 D (0:Int)=mkv D (fun _=>0):=by
 apply Kd
 grind[zCh,yW]
abbrev ent(B:Mx)(l j:Nat):Int:=at0 (B.getD l []) j
def tL(p:Int)(D:Nat)(r:List Int)(B:Mx):List Int:=mkv D fun j=>S D (fun l=>at0 r l*ent B l j)%p
def PM(p:Int)(D:Nat)(A B:Mx):Mx:=A.map fun r=>tL p D r B
def idM(D:Nat):Mx:=(Jk D).map fun i=>mkv D fun j=>if j=i then 1 else 0
def Row(p:Int)(D:Nat)(r:List Int):Prop:=r.length=D∧ ∀i,i<D→0≤at0 r i∧at0 r i≤p-1
def Mat(p:Int)(D:Nat)(A:Mx):Prop:=A.length=D∧ ∀i,i<D→Row p D (A.getD i [])
theorem zAV{p:Int}{D i:Nat}{A B:Mx}(h:i<A.length):(PM p D A B).getD i []=tL p D (A.getD i []) B:=by grind[PM]
theorem vT{p:Int}{D:Nat}{A B:Mx}:(PM p D A B).length=A.length:=by simp[PM]
theorem zAW{p:Int}{D:Nat}{A B:Mx}(hp:0<p)(hA:A.length=D):Mat p D (PM p D A B):=by refine⟨by rw[vT,hA],fun i hi=>?_⟩;rw[zAV (by omega)];refine⟨by rw[tL,yW],fun j hj=>?_⟩;rw[tL,wF hj];have h1:=Lw (S D fun l=>at0 (A.getD i []) l*ent B l j) (show p≠0 by omega);have h2:=L8 (S D fun l=>at0 (A.getD i []) l*ent B l j) hp;omega
theorem zLh{p:Int}{D i j:Nat}{A B:Mx}(hA:A.length=D)(hi:i<D)(hj:j<D):ent (PM p D A B) i j=S D (fun l=>ent A i l*ent B l j)%p:=by rw[ent,zAV (by omega),tL,wF hj]
theorem zIo{D:Nat}{A B:Mx}(hA:A.length=D)(hB:B.length=D)(h:∀i,i<D→A.getD i []=B.getD i []):A=B:=by
 apply Kd
 grind
theorem zJJ{p:Int}{D:Nat}{A B C:Mx}(hA:A.length=D)(hB:B.length=D):PM p D (PM p D A B) C=PM p D A (PM p D B C):=by
 refine zIo (by rw[vT,vT,hA]) (by rw[vT,hA]) fun i hi=>?_
 rw[zAV (A:=PM p D A B) (by rw[vT];omega),zAV (A:=A) (B:=PM p D B C) (by omega)];unfold tL;refine xI fun j hj=>?_
 have e1:S D (fun l=>at0 ((PM p D A B).getD i []) l*ent C l j)%p=S D (fun l=>S D (fun q=>ent A i q*ent B q l)*ent C l j)%p:=zJI fun l hl=>by
  have:=zLh (p:=p) (B:=B) hA hi hl;simp only[ent]at this ⊢
  rw[this,Ho,Lt,←Ho]
 have e2:S D (fun l=>at0 (A.getD i []) l*ent (PM p D B C) l j)%p=S D (fun q=>ent A i q*S D (fun l=>ent B q l*ent C l j))%p:=zJI fun q hq=>by rw[zLh hB hq hj,Ho,Lt,←Ho]
 rw[e1,e2]
 congr 1
 have e3:(fun l=>S D (fun q=>ent A i q*ent B q l)*ent C l j)=fun l=>S D (fun q=>ent A i q*ent B q l*ent C l j):=funext fun l=>(zP4 _ _).symm
 have e4:(fun q=>ent A i q*S D (fun l=>ent B q l*ent C l j))=fun q=>S D (fun l=>ent A i q*ent B q l*ent C l j):=funext fun q=>by rw[←zLf];exact zCg fun l _=>by rw[Int.mul_assoc]
 rw[e3,e4];exact zLg D D
theorem qO(D:Nat):(idM D).length=D:=by simp[idM]
theorem zCi{D i:Nat}(h:i<D):(idM D).getD i []=mkv D fun j=>if j=i then 1 else 0:=by simp[idM,J3,h]
theorem jZ{p:Int}{D:Nat}(hp:2≤p):Mat p D (idM D):=by
 refine⟨qO D,fun i hi=>?_⟩;rw[zCi hi];refine⟨yW _ _,fun j hj=>?_⟩
 grind[wF]
theorem kG{p a:Int}(h:0≤a∧a≤p-1):a%p=a:=Jr h.1 (by omega)
theorem zIp{p:Int}{D:Nat}{B:Mx}(hB:Mat p D B):PM p D (idM D) B=B:=by
 refine zIo (by rw[vT,qO]) hB.1 fun i hi=>?_
 rw[zAV (by grind[qO]),zCi hi,tL];obtain⟨h1,h2⟩:=hB.2 i hi;refine Eq.trans (xI fun j hj=>?_) (sK h1).symm;rw[zGe (k:=i) hi fun l hl gj=>by rw[wF hl,if_neg gj,Ja3],wF hi,if_pos rfl,Ul]
 grind[kG]
theorem zJK{p:Int}{D:Nat}{A:Mx}(hA:Mat p D A):PM p D A (idM D)=A:=by
 refine zIo (by rw[vT,hA.1]) hA.1 fun i hi=>?_
 rw[zAV (by rw[hA.1];exact hi),tL];obtain⟨h1,h2⟩:=hA.2 i hi;refine Eq.trans (xI fun j hj=>?_) (sK h1).symm;rw[zGe (k:=j) hj fun l hl gj=>by rw[ent,zCi hl,wF hj,if_neg (fun h=>gj h.symm),Ja4],ent,zCi hj,wF hj,if_pos rfl,Hf]
 grind[kG]
theorem zP5{p:Int}{D i j:Nat}{B:Mx}(hB:Mat p D B)(hi:i<D)(hj:j<D):ixO B (i:Int)=ud (B.getD i [])∧ixO (B.getD i []) (j:Int)=ud (ent B i j)∧(B.getD i []).length=D∧0≤ent B i j∧ent B i j≤p-1:=by
 obtain⟨h1,h2⟩:=hB.2 i hi
 grind[zY]
def acc(p:Int)(D i:Nat)(r:List Int)(B:Mx):List Int:=mkv D fun j=>S i (fun l=>at0 r l*ent B l j)%p
def zCo(p:Int)(D i k:Nat)(r:List Int)(B:Mx):List Int:=mkv D fun j=>if j<k then S (i+1) (fun l=>at0 r l*ent B l j)%p else S i (fun l=>at0 r l*ent B l j)%p
theorem zHv{p:Int}{D i:Nat}{r:List Int}{B:Mx}:zCo p D i 0 r B=acc p D i r B:=rfl
theorem zHw{p:Int}{D i:Nat}{r:List Int}{B:Mx}:zCo p D i D r B=acc p D (i+1) r B:=xI (by omega)
theorem zJL{p:Int}{D i k:Nat}{r:List Int}{B:Mx}(hk:k<D){a:Int}(ha:a=(at0 (zCo p D i k r B) k+at0 r i*ent B i k)%p):(zCo p D i k r B).set k a=zCo p D i (k+1) r B:=by
 subst ha;simp only[zCo];rw[zD6,wF hk,if_neg (by omega)];refine xI fun j hj=>?_
 by_cases hjk:j=k
 ·subst hjk
  rw[if_pos rfl,if_pos (by omega)]
  grind[S,Gw]
 omega
theorem zJM{p:Int}{D i k j:Nat}{r:List Int}{B:Mx}(hp:0<p)(hj:j<D):0≤at0 (zCo p D i k r B) j∧at0 (zCo p D i k r B) j≤p-1:=by
 rw[zCo,wF hj];split
 ·have h1:=Lw (S (i+1) fun l=>at0 r l*ent B l j) (show p≠0 by omega)
  have h2:=L8 (S (i+1) fun l=>at0 r l*ent B l j) hp;omega
 ·have h1:=Lw (S i fun l=>at0 r l*ent B l j) (show p≠0 by omega)
  have h2:=L8 (S i fun l=>at0 r l*ent B l j) hp;omega
theorem zGf{p:Int}{D i k:Nat}{r:List Int}{B:Mx}:(zCo p D i k r B).length=D:=yW _ _
theorem zMI{p:Int}{D i k j:Nat}{r:List Int}{B:Mx}(hj:j<D):ixO (zCo p D i k r B) (j:Int)=ud (at0 (zCo p D i k r B) j):=by grind[xL,zGf]
theorem zJN{p:Int}{D:Nat}{r:List Int}{B:Mx}:J1 D (0:Int)=acc p D 0 r B:=by rw[jE];rfl
theorem zHx{a b p:Int}(hp:p≤7)(ha:0≤a∧a≤p-1)(hb:0≤b∧b≤p-1):0≤a*b∧a*b≤36:=by have h1:0≤a*b:=Ga ha.1 hb.1;have h2:a*b≤6*6:=Ks (by omega) (by omega) hb.1 (by omega);omega
section
variable {p:Int}{D:Nat} (hp:Prime p) (hD:D≤8)
 include hp hD
theorem zCU{r:List Int}{B:Mx}(hr:Row p D r)(hB:Mat p D B):f_I p r B (D:Int)=ud (tL p D r B):=by
 have h7:=hp.pos;have hBl:=hB.1;have mc:=hr.1;unfold f_I;rw[yN (by omega),bs,zJN (p:=p) (r:=r) (B:=B)];have:=zR (body:=zQx p r B) (r:=acc p D D r B) (fun i=>(acc p D i r B,(i:Int))) D (fun i hi=>by
  have aZ:=hr.2 i hi;unfold zQx;simp only
  rw[mc,hBl,xH hi,zK,zK];have inner:=zR (body:=zQw p r B (acc p D i r B,(i:Int))) (r:=acc p D (i+1) r B) (fun k=>(zCo p D i k r B,(k:Int))) D (fun k hk=>by
   obtain⟨b1,b2,b3,b4⟩:=zP5 hB hi hk;have ha:=zJM (p:=p) (i:=i) (k:=k) (r:=r) (B:=B) (by omega) hk;have hm:=zHx (by omega) aZ b4;unfold zQw;simp only
   rw[zGf,xH hk,zK,b1,bs,b3,xH hk,zK,zMI hk,bs,xL (by omega),bs,bs,b2,bs,zE (by omega) (by omega),bs,zE (by omega) (by omega),bs];have d5:uK (at0 (zCo p D i k r B) k+at0 r i*ent B i k) p=ud ((at0 (zCo p D i k r B) k+at0 r i*ent B i k)%p):=by
    unfold uK
    grind
   rw[d5,bs,bs,zE (by omega) (by omega),bs,cs,Jd,zJL hk rfl]) (by
   unfold zQw;simp only
   rw[zGf,tK,zM,zHw])
  rw[zHv,show((0:Nat):Int)=0 from rfl]at inner
  grind[zE]) (by
  unfold zQx
  grind)
 rw[show((0:Nat):Int)=0 from rfl]at this;rw[this,bs];rfl
theorem zIq{a:Int}(h0:0≤a)(_h1:a≤1000):zIA a p=ud (a%p):=by have _:=hD;have h7:=hp.pos;have e1:=Lw a (show p≠0 by omega);have e2:=L8 a (show 0<p by omega);unfold zIA uK;rw[if_neg (by omega),bs,Li h0,zE (by omega) (by omega),bs,if_neg (by omega),bs,Li (by omega)];simp
theorem zEl{i:Nat}{r:List Int}{B:Mx}(hi:i<D)(hr:Row p D r)(hB:Mat p D B):f_H (acc p D i r B) (B.getD i []) (at0 r i) p=ud (acc p D (i+1) r B):=by
 have h7:=hp.pos;have aZ:=hr.2 i hi;unfold f_H;have hl:(acc p D i r B).length=D:=yW _ _;have inner:=zR (body:=zKu (acc p D i r B) (B.getD i []) (at0 r i) p) (r:=acc p D (i+1) r B) (fun k=>(zCo p D i k r B,(k:Int))) D (fun k hk=>by
  obtain⟨b1,b2,b3,b4⟩:=zP5 hB hi hk;have ha:=zJM (p:=p) (i:=i) (k:=k) (r:=r) (B:=B) (by omega) hk;have hm:=zHx (by omega) aZ b4;unfold zKu;simp only
  rw[hl,xH hk,zK,zMI hk,bs,b2,bs,zE (by omega) (by omega),bs,zE (by omega) (by omega),bs,zIq hp hD (by omega) (by omega),bs,bs,zE (by omega) (by omega),bs,cs,Jd,zJL hk rfl]) (by
  unfold zKu;simp only
  rw[hl,tK,zM,zHw])
 rw[zHv,show((0:Nat):Int)=0 from rfl]at inner
 grind
theorem zAF{r:List Int}{B:Mx}{q:Int}(hr:Row p D r)(hB:Mat p D B)(hq:q=(D:Int)):zQS r (yL.mk p q B)=ud (tL p D r B):=by
 subst hq;have mc:=hr.1;unfold zQS;simp only
 rw[yN (by omega),bs,zJN (p:=p) (r:=r) (B:=B)];have:=zR (body:=zKv r (yL.mk p (D:Int) B)) (r:=acc p D D r B) (fun i=>(acc p D i r B,(i:Int))) D (fun i hi=>by
  have hBl:=hB.1;unfold zKv;simp only
  rw[mc,xH hi,zK,xL (by omega),bs,zY [] (by omega),bs,zEl hp hD hi hr hB,bs,zE (by omega) (by omega),bs,cs]) (by
  unfold zKv
  grind)
 rw[show((0:Nat):Int)=0 from rfl]at this;rw[this,bs];rfl
theorem zHy{A B:Mx}{i:Nat}(hi:i<A.length):(PM p D A B).take i++[tL p D (A.getD i []) B]=(PM p D A B).take (i+1):=by
 have _:=hp;have _:=hD;rw[Jm (by grind[vT])]
 congr 2
 have:=zAV (p:=p) (D:=D) (B:=B) hi
 grind
theorem qU{A B:Mx}(hA:Mat p D A)(hB:Mat p D B):zLC p A B (D:Int)=ud (PM p D A B):=by
 have pq:=hA.1;unfold zLC;have:=zR (body:=zKr p A B (D:Int)) (r:=PM p D A B) (fun i=>((PM p D A B).take i,(i:Int))) D (fun i hi=>by
  unfold zKr;simp only
  rw[pq,xH hi,zK,zY [] (by omega),bs,zCU hp hD (hA.2 i hi) hB,bs,yC (by rw[L6,vT];simp;omega),bs,zE (by omega) (by omega),bs,cs,zHy hp hD (by omega)]) (by
  unfold zKr;simp only
  rw[pq,tK,zM,Jq (by grind[vT])])
 grind
theorem zGD{A B:Mx}{q:Int}(hA:Mat p D A)(hB:Mat p D B):zSK (yL.mk p q A) (yL.mk p (D:Int) B)=ud (yL.mk p (D:Int) (PM p D A B)):=by
 have pq:=hA.1;unfold zSK;have:=zR (body:=zKw (yL.mk p q A) (yL.mk p (D:Int) B)) (r:=PM p D A B) (fun i=>((PM p D A B).take i,(i:Int))) D (fun i hi=>by
  unfold zKw;simp only
  rw[pq,xH hi,zK,zY [] (by omega),bs,zAF hp hD (hA.2 i hi) hB rfl,bs,yC (by rw[L6,vT];simp;omega),bs,zE (by omega) (by omega),bs,cs,zHy hp hD (by omega)]) (by
  unfold zKw;simp only
  rw[pq,tK,zM,Jq (by grind[vT])])
 grind
theorem zJO{i:Nat}(_hi:i<D):(J1 D (0:Int)).set i 1=mkv D fun j=>if j=i then 1 else 0:=by have _:=hp;have _:=hD;rw[jE,zD6]
theorem zMJ{i:Nat}(hi:i<D):(idM D).take i++[mkv D fun j=>if j=i then 1 else 0]=(idM D).take (i+1):=by
 have _:=hp;have _:=hD;rw[Jm (by grind[qO])]
 congr 2
 have:=zCi hi
 grind
theorem zGg:zQv (D:Int)=ud (idM D):=by
 unfold zQv;have:=zR (body:=zKq (D:Int)) (r:=idM D) (fun i=>((idM D).take i,(i:Int))) D (fun i hi=>by
  unfold zKq;simp only
  rw[xH hi,zK,yN (by omega),bs,vC,Js,if_pos hi,bs,Jd,zJO hp hD hi,yC (by grind),bs,zE (by omega) (by omega),bs,cs,zMJ hp hD hi]) (by
  unfold zKq;simp only
  rw[tK,zM,Jq (by grind[qO])])
 grind
theorem zGE:zSJ p (D:Int)=ud (yL.mk p (D:Int) (idM D)):=by
 unfold zSJ;have:=zR (body:=zHD (D:Int)) (r:=idM D) (fun i=>((idM D).take i,(i:Int))) D (fun i hi=>by
  unfold zHD;simp only
  rw[xH hi,zK,yN (by omega),bs,vC,Js,if_pos hi,bs,Jd,zJO hp hD hi,yC (by grind),bs,zE (by omega) (by omega),bs,cs,zMJ hp hD hi]) (by
  unfold zHD;simp only
  rw[tK,zM,Jq (by grind[qO])])
 grind
end
end Go.Pl

namespace Go.Pl
open Go Go.Ab Go.Wk Go.Pc
def nw:Nat→List Int→List Nat
 |_,[]=>[]
 |o,a::v=>J1 a.toNat o++nw (o+1) v
theorem zEm:∀(o:Nat)(u v:List Int),nw o (u++v)=nw o u++nw (o+u.length) v
 |o,[],v=>by simp[nw]
 |o,a::u,v=>by
  simp only[Kz,nw,zEm (o+1) u v,J9,Jl]
  grind
theorem zIr{v:List Int}{i:Nat}(h:i<v.length):nw 0 (v.take (i+1))=nw 0 (v.take i)++J1 (at0 v i).toNat i:=by
 rw[Jm h,zEm,L6,Ur (by omega),J6];simp only[nw,Jf]
 grind
theorem zP6{n:Nat}:∀(o:Nat)(v:List Int),o+v.length≤n→ ∀w∈nw o v,w<n
 |o,[],_,w,h=>by grind[nw]
 |o,a::v,hv,w,h=>by
  simp only[nw,Jt,Jl]at h hv;rcases h with h|h
  ·grind
  ·exact zP6 (o+1) v (by omega) w h
theorem zGh:∀(o:Nat)(v:List Int),(∀i,i<v.length→at0 v i≤6)→(nw o v).length≤6*v.length
 |o,[],_=>by simp[nw]
 |o,a::v,h=>by
  have h0:=h 0 (by simp);have:=zGh (o+1) v fun i hi=>by
   have:=h (i+1) (by grind)
   grind
  simp only[at0,Gv]at h0
  grind[nw]
def wM(p:Int)(D:Nat)(A:List Mx)(ws:List Nat)(B:Mx):Mx:=ws.foldl (fun B w=>PM p D B (A.getD w [])) B
theorem zEn{p:Int}{D:Nat}{A:List Mx}{u v:List Nat}{B:Mx}:wM p D A (u++v) B=wM p D A v (wM p D A u B):=by simp[wM,Qr]
theorem zGi{p:Int}{D:Nat}{A:List Mx}{w:Nat}:∀(k:Nat)(B:Mx),wM p D A (J1 k w) B=iter k (fun B=>PM p D B (A.getD w [])) B
 |0,_=>rfl
 |k+1,B=>by rw[K6];show wM p D A (J1 k w) (PM p D B (A.getD w []))=_;rw[zGi k];rfl
theorem zEo{p:Int}{D:Nat}{A:List Mx}(hp:0<p):∀(ws:List Nat){B:Mx},Mat p D B→Mat p D (wM p D A ws B)
 | [],_,hB=>hB
 |_w::ws,_,hB=>zEo hp ws (zAW hp hB.1)
theorem zP7{p:Int}{D:Nat}{A:List Mx}(hp:0<p){C:Mx}(hC:C.length=D):∀(ws:List Nat){B:Mx},Mat p D B→wM p D A ws (PM p D C B)=PM p D C (wM p D A ws B)
 | [],_,_=>rfl
 |w::ws,B,hB=>by show wM p D A ws (PM p D (PM p D C B) (A.getD w []))=PM p D C (wM p D A ws (PM p D B (A.getD w [])));rw[zJJ hC hB.1,zP7 hp hC ws (zAW hp hB.1)]
structure MOk (n:Nat) (m:zC) (D:Nat):Prop where
 p:Prime m.Prime
 d:m.Dim=(D:Int)
 d1:1≤D
 d3:D≤3
 len:m.zJ.length=n
 mat:∀i,i<n→Mat m.Prime D (m.zJ.getD i [])
structure zU7 (n:Nat) (m:zC) (D:Nat):Prop where
 p:Prime m.Prime
 d:m.Dim=(D:Int)
 d3:D≤30
 len:m.zJ.length=n
 mat:∀i,i<n→Mat m.Prime D (m.zJ.getD i [])
theorem MOk.x{n D:Nat}{m:zC}(h:MOk n m D):zU7 n m D:=⟨h.p,h.d,by have:=h.d3;omega,h.len,h.mat⟩
structure zU8 (n:Nat) (m:zC) (D:Nat):Prop where
 p:Prime m.Prime
 d1:1≤D
 d3:D≤200
 len:m.zJ.length=n
 mat:∀i,i<n→Mat m.Prime D (m.zJ.getD i [])
theorem MOk.b{n D:Nat}{m:zC}(h:MOk n m D):zU8 n m D:=⟨h.p,h.d1,by have:=h.d3;omega,h.len,h.mat⟩
section
variable {n D:Nat}{m:zC} (hm:MOk n m D) (hn:n≤9)
 include hm hn
theorem zJP{v:List Int}(hl:v.length=n)(hv:∀i,i<n→0≤at0 v i∧at0 v i≤6):f_L m v=ud (wM m.Prime D m.zJ (nw 0 v) (idM D)):=by
 have h7:=hm.p.pos;have h3:=hm.d3;have gg:=hm.len;unfold f_L;rw[hm.d,zGg hm.p (by omega),bs];have hI:∀i,Mat m.Prime D (wM m.Prime D m.zJ (nw 0 (v.take i)) (idM D)):=by grind[zEo,jZ]
 have:=zR (body:=zQz m v) (r:=wM m.Prime D m.zJ (nw 0 v) (idM D)) (fun i=>(wM m.Prime D m.zJ (nw 0 (v.take i)) (idM D),(i:Int))) n (fun i hi=>by
  have hvi:=hv i hi;unfold zQz;simp only
  rw[hl,xH hi,zK];rw[vD (S:=Mat m.Prime D) (body:=zQy m v (wM m.Prime D m.zJ (nw 0 (v.take i)) (idM D),(i:Int))) (fun B=>B) (fun B=>PM m.Prime D B (m.zJ.getD i [])) (at0 v i) hvi.1 (fun B hB=>zAW (by omega) hB.1) (fun B q hB hq=>by
   unfold zQy;simp only
   rw[xL (by omega),bs,ui hq,zK,zY [] (by omega),bs,hm.d,qU hm.p (by omega) hB (hm.mat i hi),bs,zE (by omega) (by omega),bs,cs]) (fun B hB=>by
   unfold zQy;simp only
   rw[xL (by omega),bs,uh (by omega),zM]) (hI i),bs,zE (by omega) (by omega),bs,cs]
  grind[zIr,zEn,zGi]) (by
  unfold zQz
  grind)
 rw[show((0:Nat):Int)=0 from rfl,Ko]at this
 grind[nw,wM]
abbrev enW(ws:List Nat):List Int:=ws.map fun(w:Nat)=>(w:Int)+1
theorem zC3{i:Nat}(hi:i<n):zLG m (i:Int)=ud (yL.mk m.Prime (D:Int) (m.zJ.getD i [])):=by have _:=hn;have gg:=hm.len;unfold zLG;rw[zY [] (by omega),bs,hm.d]
theorem zC4{ws:List Nat}(hw:∀w∈ws,w<n)(hl:ws.length≤1000000):zQT m (enW ws)=ud (yL.mk m.Prime (D:Int) (wM m.Prime D m.zJ ws (idM D))):=by
 have h7:=hm.p.pos;have h3:=hm.d3;unfold zQT;rw[hm.d,zGE hm.p (by omega),bs];have hI:∀i,Mat m.Prime D (wM m.Prime D m.zJ (ws.take i) (idM D)):=by grind[zEo,jZ]
 have az:(enW ws).length=ws.length:=by simp
 have:=zR (body:=zKx m (enW ws)) (r:=(m.Prime,(D:Int),wM m.Prime D m.zJ ws (idM D))) (fun i=>(m.Prime,(D:Int),wM m.Prime D m.zJ (ws.take i) (idM D),(i:Int))) ws.length (fun i hi=>by
  have pT:=hw ws[i] (Jx hi);unfold zKx;simp only
  rw[az,xH hi,zK,vC,Jo,J5 hi];simp only[Hc];rw[bs,zE (by omega) (by omega),bs,show((ws[i]:Nat):Int)+1-1=((ws[i]:Nat):Int)from by omega,zC3 hm hn pT,bs,zGD hm.p (by omega) (hI i) (hm.mat _ pT),bs,zE (by omega) (by omega),bs,cs,Jm hi,zEn];rfl) (by
  unfold zKx;simp)
 rw[show((0:Nat):Int)=0 from rfl,Ko]at this
 grind[wM]
end
theorem zBm{v:List Int}(hl:v.length≤9)(hv:∀i,i<v.length→0≤at0 v i∧at0 v i≤6):f_M v=ud (enW (nw 0 v)):=by
 unfold f_M;have gg:∀i,(nw 0 (v.take i)).length≤54:=fun i=>by
  have:=zGh 0 (v.take i) (by grind)
  grind
 have:=zR (body:=zQO v) (r:=enW (nw 0 v)) (fun i=>(enW (nw 0 (v.take i)),(i:Int))) v.length (fun i hi=>by
  have hvi:=hv i hi;have hli:=gg i;unfold zQO;simp only
  rw[xH hi,zK,xL hi,bs];have inner:=zR (body:=zQN (enW (nw 0 (v.take i)),(i:Int)) (at0 v i)) (r:=enW (nw 0 (v.take (i+1)))) (fun k=>(enW (nw 0 (v.take i)++J1 k i),(k:Int))) (at0 v i).toNat (fun k hk=>by
   unfold zQN;simp only
   rw[ui (by omega),zK,zE (by omega) (by omega),bs,yC (by grind),bs,zE (by omega) (by omega),bs,cs]
   congr 3
   rw[G9,←J9];simp) (by
   unfold zQN;simp only
   rw[uh (by omega),zM,zIr hi])
  rw[show((0:Nat):Int)=0 from rfl,Lf,Jf]at inner
  grind[zE]) (by
  unfold zQO;simp)
 rw[show((0:Nat):Int)=0 from rfl,Ko]at this;simp only[nw,enW,U0]at this
 grind
theorem zP8{v o:Int}(h:zQM 1 (IntKind.wrap .u64 o)=ud (0,o)):zQM (IntKind.wrap .u64 (([v]:List Int).length:Int)) (IntKind.wrap .u64 o)=ud (0,o):=by rw[show IntKind.wrap .u64 (([v]:List Int).length:Int)=1 from by rfl];exact h
theorem zJQ{v o:Int}(ho:Prime o):f_u [v] o=ud (J1 o.toNat v):=by
 unfold f_u;rcases ho with rfl|rfl|rfl|rfl
 ·have h:=zR (body:=zEP) (r:=[v,v]) (fun i=>match i with|0=>([v,0],1)|_=>([v,v],2)) 1 (fun i hi=>by
   match i,hi with
   |0,_=>rfl) (by rfl)
  rw[zP8 (by rfl),bs];have hl:yT (IntKind.wrap .i64 2)=ud 2:=by rfl
  simp only[hl,bs];rw[show decide ((2:Int)<0)=ug from rfl,zM,show decide ((0:Int)> 0)=ug from rfl,zM,show decide ((2:Int)> 9223372036854775807)=ug from by decide,zM]
  grind[vS]
 ·have h:=zR (body:=zEP) (r:=[v,v,v]) (fun i=>match i with|0=>([v,0,0],1)|1=>([v,v,0],2)|_=>([v,v,v],3)) 2 (fun i hi=>by
   match i,hi with
   |0,_=>rfl
   |1,_=>rfl) (by rfl)
  rw[zP8 (by rfl),bs];have hl:yT (IntKind.wrap .i64 3)=ud 3:=by rfl
  simp only[hl,bs];rw[show decide ((3:Int)<0)=ug from rfl,zM,show decide ((0:Int)> 0)=ug from rfl,zM,show decide ((3:Int)> 9223372036854775807)=ug from by decide,zM]
  grind[vS]
 ·have h:=zR (body:=zEP) (r:=[v,v,v,v,v]) (fun i=>match i with|0=>([v,0,0,0,0],1)|1=>([v,v,0,0,0],2)|2=>([v,v,v,v,0],4)|_=>([v,v,v,v,v],5)) 3 (fun i hi=>by
   match i,hi with
   |0,_=>rfl
   |1,_=>simp[zEP,yB,vS,rng,inR]
   |2,_=>rfl) (by rfl)
  rw[zP8 (by rfl),bs];have hl:yT (IntKind.wrap .i64 5)=ud 5:=by rfl
  simp only[hl,bs];rw[show decide ((5:Int)<0)=ug from rfl,zM,show decide ((0:Int)> 0)=ug from rfl,zM,show decide ((5:Int)> 9223372036854775807)=ug from by decide,zM];have e2:vS (J1 5 (0:Int)) 0 (([v]:List Int).take ((J1 5 (0:Int)).length-0))=[v,0,0,0,0]:=by rfl
  grind
 ·have h:=zR (body:=zEP) (r:=[v,v,v,v,v,v,v]) (fun i=>match i with|0=>([v,0,0,0,0,0,0],1)|1=>([v,v,0,0,0,0,0],2)|2=>([v,v,v,v,0,0,0],4)|_=>([v,v,v,v,v,v,v],7)) 3 (fun i hi=>by
   match i,hi with
   |0,_=>rfl
   |1,_=>simp[zEP,yB,vS,rng,inR]
   |2,_=>rfl) (by rfl)
  rw[zP8 (by rfl),bs];have hl:yT (IntKind.wrap .i64 7)=ud 7:=by rfl
  simp only[hl,bs];rw[show decide ((7:Int)<0)=ug from rfl,zM,show decide ((0:Int)> 0)=ug from rfl,zM,show decide ((7:Int)> 9223372036854775807)=ug from by decide,zM];have e2:vS (J1 7 (0:Int)) 0 (([v]:List Int).take ((J1 7 (0:Int)).length-0))=[v,0,0,0,0,0,0]:=by rfl
  simp_all
end Go.Pl

namespace Go.Pl
open Go Go.Ab Go.Wk Go.Pc
theorem IsB.b{o:Option Bool}{P:Prop}(h:IsB o P):IsB (o.bind fun r=>ud r) P:=by grind
theorem zEG{p:Int}{D:Nat}{r:List Int}(hp:Prime p)(hD:D≤8):IsB (zQL r p (D:Int)) (Row p D r):=by
 have h7:=hp.pos;unfold zQL
 by_cases h:r.length=D
 ·rw[zBi (by omega),zM]
  refine(tU r.length (fun i=>0≤at0 r i∧at0 r i≤p-1) rfl (fun i hi _=>?_) ?_).iff ⟨fun g=>⟨h,by grind⟩,fun g=>by rw[h];exact g.2⟩
  ·refine vV (jC _ _ _) (by omega) ?_
   unfold zMZ;rw[xH hi,zK,xL hi,bs,zE (by omega) (by omega),bs]
  ·unfold zMZ
   simp
 ·rw[zBj (by omega),zK]
  exact .inr ⟨rfl,fun g=>h g.1⟩
theorem zBL{p:Int}{D:Nat}{r:List Int}(hp:Prime p)(hD:D≤8):IsB (zQu p (D:Int) r) (Row p D r):=by
 have h7:=hp.pos;unfold zQu
 by_cases h:r.length=D
 ·rw[zBi (by omega),zM]
  refine(tU r.length (fun i=>0≤at0 r i∧at0 r i≤p-1) rfl (fun i hi _=>?_) ?_).iff ⟨fun g=>⟨h,by grind⟩,fun g=>by rw[h];exact g.2⟩
  ·refine vV (zBE _ _ _) (by omega) ?_
   unfold zMW;rw[xH hi,zK,xL hi,bs,zE (by omega) (by omega),bs]
  ·unfold zMW
   simp
 ·rw[zBj (by omega),zK]
  exact .inr ⟨rfl,fun g=>h g.1⟩
theorem zN1{p:Int}{D:Nat}{B:Mx}(hp:Prime p)(hD:D≤8):IsB (zSE p (D:Int) B) (Mat p D B):=by
 unfold zSE
 by_cases h:B.length=D
 ·rw[zBi (by omega),zM]
  refine(tU B.length (fun i=>Row p D (B.getD i [])) rfl (fun i hi _=>?_) ?_).iff ⟨fun g=>⟨h,by grind⟩,fun g=>by rw[h];exact g.2⟩
  ·refine vV (zBL hp hD) (by omega) ?_
   unfold zMX;rw[xH hi,zK,zY [] hi,bs]
  ·unfold zMX
   simp
 ·rw[zBj (by omega),zK]
  exact .inr ⟨rfl,fun g=>h g.1⟩
theorem zGF{p:Int}{D:Nat}{B:Mx}(hp:Prime p)(hD:D≤8)(hB:B.length=D):IsB (zSI (yL.mk p (D:Int) B)) (Mat p D B):=by
 unfold zSI;simp only
 rcases zAT p with⟨h1,_⟩|⟨_,h2⟩
 ·rw[h1,bs,Jc,zM]
  rcases jC (D:Int) 0 8 with⟨h3,_⟩|⟨_,h4⟩
  ·rw[h3,bs,Jc,zM,uh (by omega),zM]
   refine(tU (body:=zKt (yL.mk p (D:Int) B)) D (fun i=>Row p D (B.getD i [])) rfl (fun i hi _=>?_) ?_).iff ⟨fun g=>⟨hB,g⟩,fun g=>g.2⟩
   ·refine vV (zEG hp hD) (by omega) ?_
    unfold zKt;simp only
    rw[hB,xH hi,zK,zY [] (by omega),bs]
   ·unfold zKt
    grind
  omega
 grind
theorem zGj{A B:Mx}(hA:A.length≤1000)(h:∀r∈A,r.length≤1000):zSF A B=ud (A==B):=
 zHq (t:=zI7) (body:=zQ0 A B) rfl (fun _=>rfl) (by omega) (by grind[zNz])
theorem zGG{A B:Mx}(hA:A.length≤1000)(h:∀r∈A,r.length≤1000):zSL A B=ud (A==B):=by unfold zSL;rw[zHq (f:=zUX A B) (t:=f_Z) (body:=zQU A B) rfl (fun _=>rfl) (by omega) (by grind[zCT]),bs]
theorem Mat.small{p:Int}{D:Nat}{A:Mx}(h:Mat p D A)(hD:D≤8):A.length≤1000∧ ∀r∈A,r.length≤1000:=by
 refine⟨by have:=h.1;omega,fun r hr=>?_⟩;obtain⟨i,hi,rfl⟩:=K1.1 hr;have:=h.2 i (by rw[←h.1];exact hi);rw[J3,J5 hi]at this;have:=this.1
 grind
def zGH(x:SPr)(m:zC)(D:Nat):Prop:=
 ∀i,i<x.zA.length→wM m.Prime D m.zJ (J1 (at0 x.zA i).toNat i) (idM D)=wM m.Prime D m.zJ (nw 0 (x.zV.getD i [])) (idM D)∧
  ∀j,i+1≤j→j<x.zA.length→PM m.Prime D (m.zJ.getD j []) (m.zJ.getD i [])=PM m.Prime D (m.zJ.getD i []) (wM m.Prime D m.zJ (nw 0 ((x.zD.getD i []).getD (j-(i+1)) [])) (idM D))
theorem sP{x:SPr}{v:List Int}{i:Nat}(ho:Os x.zA)(h:Exp x.zA v i):v.length=x.zA.length∧ ∀j,j<x.zA.length→0≤at0 v j∧at0 v j≤6:=by have h1:=h.1.1;refine⟨h1,fun j hj=>?_⟩;have:=h.1.2 j (by omega);have:=(ho.2 j hj).pos;omega
section
variable {x:SPr}{m:zC}{D:Nat} (h:Pres x) (hm:MOk x.zA.length m D)
 include h hm
theorem zN2{i:Nat}(hi:i<x.zA.length):(x.zV.getD i []).length=x.zA.length∧ ∀j,j<x.zA.length→0≤at0 (x.zV.getD i []) j∧at0 (x.zV.getD i []) j≤6:=have _:=hm;sP h.os (h.tl i hi).1
theorem zLi{i j:Nat}(hi:i<x.zA.length)(hj:j<(x.zD.getD i []).length):((x.zD.getD i []).getD j []).length=x.zA.length∧ ∀q,q<x.zA.length→0≤at0 ((x.zD.getD i []).getD j []) q∧at0 ((x.zD.getD i []).getD j []) q≤6:=have _:=hm;sP h.os ((h.tl i hi).2.2 j hj)
theorem zN3:IsB ((zI (zQ4 x m) 0).bind fun r=>match r with|.inl _=>ud uf|.inr r=>ud r) (zGH x m D):=by
 have h6:=h.os.1;have h7:=hm.p.pos;have h3:=hm.d3;have gg:=hm.len;refine tU x.zA.length (fun i=>wM m.Prime D m.zJ (J1 (at0 x.zA i).toNat i) (idM D)=wM m.Prime D m.zJ (nw 0 (x.zV.getD i [])) (idM D)∧
  ∀j,i+1≤j→j<x.zA.length→PM m.Prime D (m.zJ.getD j []) (m.zJ.getD i [])=PM m.Prime D (m.zJ.getD i []) (wM m.Prime D m.zJ (nw 0 ((x.zD.getD i []).getD (j-(i+1)) [])) (idM D))) rfl (fun i hi _=>?_) ?_
 ·have ei:=(h.os.2 i hi).pos
  have pE:=h.pl;have gI:=h.cl;obtain⟨p1,p2⟩:=zN2 h hm hi;have t2:=(h.tl i hi).2.1;have hI:=jZ (p:=m.Prime) (D:=D) h7.1;unfold zQ4;rw[xH hi,zK,hm.d,zGg hm.p (by omega),bs];rw[vD (S:=Mat m.Prime D) (body:=zQ2 x m (i:Int)) (fun B=>B) (fun B=>PM m.Prime D B (m.zJ.getD i [])) (at0 x.zA i) (by omega) (fun B hB=>zAW (by omega) hB.1) (fun B q hB hq=>by
   unfold zQ2;simp only
   rw[xL hi,bs,ui hq,zK,zY [] (by omega),bs,hm.d,qU hm.p (by omega) hB (hm.mat i hi),bs,zE (by omega) (by omega),bs,cs]) (fun B hB=>by
   unfold zQ2;simp only
   rw[xL hi,bs,uh (by omega),zM]) hI,bs,zY [] (by omega),bs,zJP hm (by omega) p1 p2,bs,←zGi]
  have hs:=(zEo (p:=m.Prime) (D:=D) (A:=m.zJ) (by omega) (J1 (at0 x.zA i).toNat i) hI).small (by omega);rw[zGj hs.1 hs.2,bs]
  by_cases hq:wM m.Prime D m.zJ (J1 (at0 x.zA i).toNat i) (idM D)=wM m.Prime D m.zJ (nw 0 (x.zV.getD i [])) (idM D)
  ·rw[show(wM m.Prime D m.zJ (J1 (at0 x.zA i).toNat i) (idM D)==wM m.Prime D m.zJ (nw 0 (x.zV.getD i [])) (idM D))=uf from by grind,Jc,zM,zE (by omega) (by omega),bs,cs]
   rcases chk (body:=zQ3 x m (i:Int)) x.zA.length (i+1) (by omega) (fun j=>PM m.Prime D (m.zJ.getD j []) (m.zJ.getD i [])=PM m.Prime D (m.zJ.getD i []) (wM m.Prime D m.zJ (nw 0 ((x.zD.getD i []).getD (j-(i+1)) [])) (idM D))) (fun _=>ug) (fun j h1 h2 _=>by
     obtain⟨c1,c2⟩:=zLi h hm (j:=j-(i+1)) hi (by omega);have hjm:=hm.mat j h2;have him:=hm.mat i hi;have hw:=zEo (p:=m.Prime) (D:=D) (A:=m.zJ) (by omega) (nw 0 ((x.zD.getD i []).getD (j-(i+1)) [])) hI;have hs:=(zAW (p:=m.Prime) (B:=m.zJ.getD i []) (by omega) hjm.1).small (by omega);refine vV (o:=ud (PM m.Prime D (m.zJ.getD j []) (m.zJ.getD i [])==PM m.Prime D (m.zJ.getD i []) (wM m.Prime D m.zJ (nw 0 ((x.zD.getD i []).getD (j-(i+1)) [])) (idM D)))) (IsB.of_bool (by simp)) (by omega) ?_;unfold zQ3;rw[xH h2,zK,zY (i:=j) [] (by omega),bs,zY (i:=i) [] (by omega),bs,hm.d,qU hm.p (by omega) hjm him,bs,bs,zY (i:=i) [] (by omega),bs,zE (by omega) (by omega),bs,zE (by omega) (by omega),bs,show(j:Int)-(i:Int)-1=((j-(i+1):Nat):Int)from by omega,zY [] (by omega),bs,zJP hm (by omega) c1 c2,bs,qU hm.p (by omega) him hw,bs,zGj hs.1 hs.2]) (by
     unfold zQ3;simp)with⟨g1,g2⟩|⟨j,j1,j2,g1,g2⟩
   ·grind
   ·right
    rw[g1,bs]
    grind
  grind
 ·unfold zQ4
  simp
end
def zT9(x:SPr)(m:zC):Prop:=zAU x∧ ∃D,MOk x.zA.length m D∧zGH x m D
theorem zC5{x:SPr}{m:zC}(hl:x.zA.length≤1048576):IsB (zQ5 x m) (zT9 x m):=by
 unfold zQ5;rcases zLe hl with⟨h1,h2⟩|⟨h1,h2⟩
 ·have h6:=h2.1.os.1
  rw[h1,bs,zK];unfold f_p;rcases zFX m.Prime with⟨p1,p2⟩|⟨p1,p2⟩
  ·rw[p1,bs,Jc,zM]
   rcases zBE m.Dim 1 3 with⟨d1,d2⟩|⟨d1,d2⟩
   ·rw[d1,bs,Jc,zM]
    obtain⟨D,hD⟩:∃D:Nat,m.Dim=(D:Int):=⟨m.Dim.toNat,by omega⟩
    by_cases gg:m.zJ.length=x.zA.length
    ·rw[zBi (by omega),zM]
     rcases chk (body:=zQ1 x m) x.zA.length 0 (Kn _) (fun i=>Mat m.Prime D (m.zJ.getD i [])) (fun _=>ug) (fun i _ hi _=>by
       refine vV (zN1 p2 (D:=D) (by omega)) (by omega) ?_;unfold zQ1;rw[xH hi,zK,zY [] (by omega),bs,hD]) (by
       unfold zQ1;simp)with⟨g1,g2⟩|⟨i,_,hi,g1,g2⟩
     ·rw[show((0:Nat):Int)=0 from rfl]at g1
      have hm:MOk x.zA.length m D:=⟨p2,hD,by omega,by omega,gg,by grind⟩;rw[g1,bs];refine(zN3 h2.1 hm).b.iff ⟨fun k2=>⟨h2,D,hm,k2⟩,fun⟨_,D',gz,hr⟩=>?_⟩;have:D'=D:=by have:=gz.d;omega
      grind
     ·rw[show((0:Nat):Int)=0 from rfl]at g1
      rw[g1,bs];refine .inr ⟨rfl,fun⟨_,D',gz,_⟩=>g2 ?_⟩;have:D'=D:=by have:=gz.d;omega
      rw[←this];exact gz.mat i hi
    ·rw[zBj (by omega),zK]
     exact .inr ⟨rfl,fun⟨_,D',gz,_⟩=>gg gz.len⟩
   ·rw[d1,bs,K2,zK]
    exact .inr ⟨rfl,fun⟨_,D',gz,_⟩=>d2 (by have:=gz.d;have:=gz.d1;have:=gz.d3;omega)⟩
  ·rw[p1,bs,K2,zK]
   exact .inr ⟨rfl,fun⟨_,D',gz,_⟩=>p2 gz.p⟩
 ·rw[h1,bs,zM]
  exact .inr ⟨rfl,fun g=>h2 g.1⟩
end Go.Pl

namespace Go.Pl
open Go Go.Ab Go.Wk Go.Pc
abbrev Rl:=List Nat×List Nat
def r1(x:SPr)(i:Nat):Rl:=(J1 (at0 x.zA i).toNat i,nw 0 (x.zV.getD i []))
def r2(x:SPr)(i j:Nat):Rl:=([i+j+1,i],i::nw 0 ((x.zD.getD i []).getD j []))
def R2(x:SPr)(i:Nat):List Rl:=(Jk (x.zD.getD i []).length).map (r2 x i)
def wL(x:SPr):List Rl:=(Jk x.zA.length).map (r1 x)++(Jk x.zA.length).flatMap (R2 x)
abbrev enR(q:Rl):List Int×List Int:=(enW q.1,enW q.2)
section
variable {x:SPr} (h:Pres x)
 include h
theorem zU9{i:Nat}(hi:i<x.zA.length):(R2 x i).length≤9:=by
 have:=(h.tl i hi).2.1;have:=h.os.1
 grind[R2]
theorem zGk:∀i,i≤x.zA.length→((Jk i).flatMap (R2 x)).length≤9*i
 |0,_=>by simp
 |i+1,hi=>by
  have:=zGk i (by omega)
  grind[zU9,Kv]
theorem zSr{k i:Nat}:enW (J1 k i)=J1 k ((i:Int)+1):=by have _:=h;simp
theorem kS:f_v x=ud ((wL x).map enR):=by
 have h6:=h.os.1;have pE:=h.pl;have gI:=h.cl;unfold f_v;have l1:=zR (body:=zQP x) (r:=((Jk x.zA.length).map (r1 x)).map enR) (fun i=>(((Jk i).map (r1 x)).map enR,(i:Int))) x.zA.length (fun i hi=>by
  obtain⟨p1,p2⟩:=sP h.os (h.tl i hi).1;unfold zQP;simp only
  rw[xH hi,zK,xL hi,bs,zE (by omega) (by omega),bs,zJQ (h.os.2 i hi),bs,zY [] (by omega),bs,zBm (by omega) (by rw[p1];exact p2),bs,yC (by simp only[Jj,U7,Jl,Hu];omega),bs,bs,cs,Kv];simp only[Ld,Jn,U0,r1,enR,zSr h,cs]) (by
  unfold zQP;simp)
 rw[show((0:Nat):Int)=0 from rfl]at l1;simp only[List.range_zero,U0]at l1;rw[l1,bs];have l3:=zR (body:=zQR x) (r:=(wL x).map enR) (fun i=>(((Jk x.zA.length).map (r1 x)++(Jk i).flatMap (R2 x)).map enR,(i:Int))) x.zA.length (fun i hi=>by
  have t2:=(h.tl i hi).2.1;have ay:=zGk h i (by omega);unfold zQR;simp only
  rw[xH hi,zK,zY [] (by omega),bs];have l2:=zR (body:=zQQ (((Jk x.zA.length).map (r1 x)++(Jk i).flatMap (R2 x)).map enR,(i:Int)) (x.zD.getD i [])) (r:=((Jk x.zA.length).map (r1 x)++(Jk (i+1)).flatMap (R2 x)).map enR)
   (fun j=>(((Jk x.zA.length).map (r1 x)++(Jk i).flatMap (R2 x)++(Jk j).map (r2 x i)).map enR,(j:Int))) (x.zD.getD i []).length (fun j hj=>by
    obtain⟨p1,p2⟩:=sP h.os ((h.tl i hi).2.2 j hj);have cB:=zGh 0 ((x.zD.getD i []).getD j []) (by grind);unfold zQQ;simp only
    rw[xH hj,zK,zY [] hj,bs,zE (by omega) (by omega),bs,zE (by omega) (by omega),bs,zE (by omega) (by omega),bs,zBm (by omega) (by rw[p1];exact p2),bs,yC (by simp only[Jj,Jl,Hu];omega),bs,yC (by simp only[Jj,J7,U7,Jl,Hu];omega),bs,zE (by omega) (by omega),bs,cs,Kv];have e1:(i:Int)+(j:Int)+2=((i+j+1:Nat):Int)+1:=by omega
    simp only[Ld,Jn,U0,r2,enR,enW,J9,Kt,e1];rfl) (by
    unfold zQQ;simp only
    rw[tK,zM,Kv,Jc5]
    grind[R2])
  rw[show((0:Nat):Int)=0 from rfl]at l2
  grind[zE]) (by
  unfold zQR;simp only
  rw[tK,zM];rfl)
 grind
theorem zHz{q:Rl}(hq:q∈wL x):((∀w∈q.1,w<x.zA.length)∧q.1.length≤1000)∧(∀w∈q.2,w<x.zA.length)∧q.2.length≤1000:=by
 have h6:=h.os.1;simp only[wL,Jt,Je,Ku,Gz,R2]at hq;rcases hq with⟨i,hi,rfl⟩|⟨i,hi,j,hj,rfl⟩
 ·obtain⟨p1,p2⟩:=sP h.os (h.tl i hi).1
  have cB:=zGh 0 (x.zV.getD i []) (by rw[p1];exact fun i hi=>(p2 i hi).2);have ei:=(h.os.2 i hi).pos;refine⟨⟨fun w hw=>?_,?_⟩,fun w hw=>zP6 0 _ (by omega) w hw,by simp only[r1];omega⟩
  ·have:=List.eq_of_mem_replicate hw;omega
  ·simp only[r1,Jy];omega
 ·obtain⟨p1,p2⟩:=sP h.os ((h.tl i hi).2.2 j hj)
  have t2:=(h.tl i hi).2.1;have cB:=zGh 0 ((x.zD.getD i []).getD j []) (by rw[p1];exact fun i hi=>(p2 i hi).2);refine⟨⟨fun w hw=>?_,by simp[r2]⟩,fun w hw=>?_,by simp only[r2,Jl];omega⟩
  ·simp only[r2,Jp,List.not_mem_nil,or_false]at hw;omega
  ·simp only[r2,Jp]at hw
   rcases hw with rfl|hw
   ·exact hi
   ·exact zP6 0 _ (by omega) w hw
variable {m:zC}{D:Nat} (hm:MOk x.zA.length m D)
 include hm
theorem zJR:(∀q∈wL x,wM m.Prime D m.zJ q.1 (idM D)=wM m.Prime D m.zJ q.2 (idM D))↔zGH x m D:=by
 have h7:=hm.p.pos;have hI:=jZ (p:=m.Prime) (D:=D) h7.1;have key:∀i j,i<x.zA.length→j<x.zA.length→ ∀ws,(wM m.Prime D m.zJ [j,i] (idM D)=wM m.Prime D m.zJ (i::ws) (idM D)↔PM m.Prime D (m.zJ.getD j []) (m.zJ.getD i [])=PM m.Prime D (m.zJ.getD i []) (wM m.Prime D m.zJ ws (idM D))):=fun i j hi hj ws=>by
  have eH:=hm.mat i hi;have c7:=hm.mat j hj;have e1:wM m.Prime D m.zJ [j,i] (idM D)=PM m.Prime D (m.zJ.getD j []) (m.zJ.getD i []):=by show PM _ _ (PM _ _ (idM D) _) _=_;rw[zIp c7]
  have e2:wM m.Prime D m.zJ (i::ws) (idM D)=PM m.Prime D (m.zJ.getD i []) (wM m.Prime D m.zJ ws (idM D)):=by show wM _ _ _ ws (PM _ _ (idM D) _)=_;rw[zIp eH,←zP7 (by omega) eH.1 ws hI,zJK eH]
  rw[e1,e2]
 constructor
 ·intro g i hi
  have t2:=(h.tl i hi).2.1;refine⟨g (r1 x i) (by simp only[wL,Jt,Je,Ku];grind),fun j h1 h2=>?_⟩;have:=g (r2 x i (j-(i+1))) (by
   simp only[wL,Jt,Gz,Ku,R2,Je]
   grind)
  simp only[r2]at this;rw[show i+(j-(i+1))+1=j from by omega]at this
  grind
 ·intro g q hq
  simp only[wL,Jt,Je,Ku,Gz,R2]at hq;rcases hq with⟨i,hi,rfl⟩|⟨i,hi,j,hj,rfl⟩
  ·exact(g i hi).1
  ·have t2:=(h.tl i hi).2.1
   have:=(g i hi).2 (i+j+1) (by omega) (by omega);rw[show i+j+1-(i+1)=j from by omega]at this;exact(key i (i+j+1) hi (by omega) _).2 this
theorem zN4:IsB ((zI (zQW m ((wL x).map enR)) 0).bind fun r=>match r with|.inl _=>ud uf|.inr r=>ud r) (zGH x m D):=by
 have h6:=h.os.1;have h7:=hm.p.pos;have h3:=hm.d3;have hI:=jZ (p:=m.Prime) (D:=D) h7.1;have ay:=zGk h x.zA.length (Jh _);have mc:(wL x).length≤1000:=by simp only[wL,J7,Jj,U7];omega
 refine(tU (wL x).length (fun k=>wM m.Prime D m.zJ ((wL x).getD k ([],[])).1 (idM D)=wM m.Prime D m.zJ ((wL x).getD k ([],[])).2 (idM D)) rfl (fun k hk _=>?_) ?_).iff ⟨fun g=>(zJR h hm).1 fun q hq=>?_,fun g k hk=>(zJR h hm).2 g _ ?_⟩
 ·have gx:(wL x).getD k ([],[])∈wL x:=by
   rw[J3,J5 hk];exact Jx hk
  obtain⟨⟨g1,g2⟩,g3,g4⟩:=zHz h gx;have hs:=(zEo (p:=m.Prime) (D:=D) (A:=m.zJ) (by omega) ((wL x).getD k ([],[])).1 hI).small (by omega);refine vV (o:=ud (wM m.Prime D m.zJ ((wL x).getD k ([],[])).1 (idM D)==wM m.Prime D m.zJ ((wL x).getD k ([],[])).2 (idM D))) (IsB.of_bool (by rw[beq_iff_eq])) (by omega) ?_;unfold zQW;rw[Jj,xH hk,zK,vC,Jo,J5 hk];rw[J3,J5 hk]at g1 g2 g3 g4 hs ⊢
  simp only[Hc,Qw]at g1 g2 g3 g4 hs ⊢
  rw[bs,zC4 hm h6 g1 (Lv g2 (by omega)),bs,zC4 hm h6 g3 (Lv g4 (by omega)),bs];simp only
  rw[zGG hs.1 hs.2]
 ·unfold zQW
  rw[Jj,tK,zM]
 ·obtain⟨k,hk,rfl⟩:=K1.1 hq
  have:=g k hk;rw[J3,J5 hk]at this;exact this
 ·rw[J3,J5 hk];exact Jx hk
end
theorem zC6{x:SPr}{m:zC}(hl:x.zA.length≤1048576)(_hal:m.zJ.length≤1048576):IsB (f_z x m) (zT9 x m):=by
 unfold f_z;rcases zD5 hl with⟨h1,h2⟩|⟨h1,h2⟩
 ·have h6:=h2.1.os.1
  rw[h1,bs,Jc,zM];rcases zAT m.Prime with⟨p1,p2⟩|⟨p1,p2⟩
  ·rw[p1,bs,Jc,zM]
   rcases jC m.Dim 1 3 with⟨d1,d2⟩|⟨d1,d2⟩
   ·rw[d1,bs,Jc,zM]
    obtain⟨D,hD⟩:∃D:Nat,m.Dim=(D:Int):=⟨m.Dim.toNat,by omega⟩
    by_cases gg:m.zJ.length=x.zA.length
    ·rw[zBi (by omega),zM]
     rcases chk (body:=zQV m) m.zJ.length 0 (Kn _) (fun i=>Mat m.Prime D (m.zJ.getD i [])) (fun _=>ug) (fun i _ hi _=>by
       unfold zQV;rw[xH hi,zK,zY [] hi,bs,hD]
       by_cases hr:(m.zJ.getD i []).length=D
       ·rw[zBi (by omega),zM]
        refine vV (zGF p2 (D:=D) (by omega) hr) (by omega) ?_
        grind[zLG,zY]
       ·rw[zBj (by omega),zK]
        exact .inr ⟨rfl,fun g=>hr g.1⟩) (by
       unfold zQV;simp)with⟨g1,g2⟩|⟨i,_,hi,g1,g2⟩
     ·rw[show((0:Nat):Int)=0 from rfl]at g1
      have hm:MOk x.zA.length m D:=⟨p2,hD,by omega,by omega,gg,by grind⟩;rw[g1,bs,kS h2.1];simp only
      rw[bs];refine(zN4 h2.1 hm).iff ⟨fun k2=>⟨h2,D,hm,k2⟩,fun⟨_,D',gz,hr⟩=>?_⟩;have:D'=D:=by have:=gz.d;omega
      grind
     ·rw[show((0:Nat):Int)=0 from rfl]at g1
      rw[g1,bs];refine .inr ⟨rfl,fun⟨_,D',gz,_⟩=>g2 ?_⟩;have:D'=D:=by have:=gz.d;omega
      rw[←this];exact gz.mat i (by omega)
    ·rw[zBj (by omega),zK]
     exact .inr ⟨rfl,fun⟨_,D',gz,_⟩=>gg gz.len⟩
   ·rw[d1,bs,K2,zK]
    exact .inr ⟨rfl,fun⟨_,D',gz,_⟩=>d2 (by have:=gz.d;have:=gz.d1;have:=gz.d3;omega)⟩
  ·rw[p1,bs,K2,zK]
   exact .inr ⟨rfl,fun⟨_,D',gz,_⟩=>p2 gz.p⟩
 ·rw[h1,bs,K2,zK]
  exact .inr ⟨rfl,fun g=>h2 g.1⟩
end Go.Pl

namespace Go.Pl
open Go Go.Ab Go.Wk Go.Pc
theorem zEp{xs:List (List Int)}{i:Nat}(h:i<xs.length):(xs.take (i+1)).flatten=(xs.take i).flatten++xs.getD i []:=by grind[Jm]
theorem zIs{xs:List (List Int)}(i:Nat):(xs.take i).flatten.length≤xs.flatten.length:=by grind[Qq]
theorem zN5{k:Nat}(hk:k≤1000000):zQX (k:Int)=ud []:=by
 unfold zQX;rw[uh (by omega),zM,zE (by decide) (by decide),bs,zE (by omega) (by omega),bs]
 by_cases h:(k:Int)-(0-0)> 0
 ·rw[ui h,zK]
  have e:uE ([]:List Int) ((k:Int)-(0-0)) 0=ud (J1 k 0):=by
   unfold uE
   grind
  rw[e,bs];rfl
 grind
theorem zAj{xs:List (List Int)}(hx:xs.length≤1000)(hf:xs.flatten.length≤1000000):f_q xs=ud xs.flatten:=by
 unfold f_q;have l1:=zR (body:=zQY xs) (r:=((xs.flatten.length:Nat):Int)) (fun i=>((((xs.take i).flatten.length:Nat):Int),(i:Int))) xs.length (fun i hi=>by
  have h1:=zEp hi;have h2:=zIs (xs:=xs) (i+1);have h3:=congrArg Uf h1;rw[J7]at h3;unfold zQY;simp only
  rw[xH hi,zK,zY [] hi,bs,zE (by omega) (by omega),bs,uh (by omega),zM,zE (by omega) (by omega),bs,cs,h3]
  congr 3) (by
  unfold zQY;simp)
 rw[show((0:Nat):Int)=0 from rfl]at l1;simp only[Ko,List.flatten_nil,Hu]at l1;rw[show((0:Nat):Int)=0 from rfl]at l1;rw[l1,bs,zN5 hf,bs];have l2:=zR (body:=zQZ xs) (r:=xs.flatten) (fun i=>((xs.take i).flatten,(i:Int))) xs.length (fun i hi=>by
  have h1:=zEp hi;have h2:=zIs (xs:=xs) (i+1);have h3:=congrArg Uf h1;rw[J7]at h3;unfold zQZ;simp only
  rw[xH hi,zK,zY [] hi,bs,yC (by omega),bs,zE (by omega) (by omega),bs,cs,h1]) (by
  unfold zQZ;simp)
 grind
theorem zJS{r:List Int}{a b:Nat}(hr:r.length≤1000)(ha:a≤1000)(hb:b≤1000):zRa r (a:Int) (b:Int)=ud (J1 a 0++(r++J1 b 0)):=by grind[zRa,yN,zAj]
end Go.Pl

namespace Go.Pl
open Go Go.Ab Go.Wk Go.Pc
section
variable {p:Int}
def zAv(p:Int)(D:Nat)(r:List Int)(k:Int)(s:List Int):List Int:=mkv D fun j=>(at0 r j+k*at0 s j)%p
theorem zGl{D:Nat}{r s:List Int}{k:Int}:(zAv p D r k s).length=D:=yW _ _
def zGI(p:Int)(D i:Nat)(r:List Int)(k:Int)(s:List Int):List Int:=mkv D fun j=>if j<i then(at0 r j+k*at0 s j)%p else at0 r j
theorem zH0{D:Nat}{r s:List Int}{k:Int}(hr:r.length=D):zGI p D 0 r k s=r:=by
 conv=>rhs;rw[sK hr]
 rfl
theorem zH1{D:Nat}{r s:List Int}{k:Int}:zGI p D D r k s=zAv p D r k s:=xI (by omega)
theorem zJT{D i:Nat}{r s:List Int}{k a:Int}(ha:a=(at0 r i+k*at0 s i)%p):(zGI p D i r k s).set i a=zGI p D (i+1) r k s:=by
 simp only[zGI];rw[zD6]
 grind
theorem zMK{D i:Nat}{r s:List Int}{k:Int}(hi:i<D):at0 (zGI p D i r k s) i=at0 r i:=by rw[zGI,wF hi,if_neg (by omega)]
theorem zD7{D i:Nat}{r s:List Int}{k:Int}:(zGI p D i r k s).length=D:=yW _ _
end
section
variable {p:Int} (hp:Prime p)
 include hp
theorem zJU{a:Int}(_h0:-1000≤a)(_h1:a≤1000):zIA a p=ud (a%p):=by
 have h7:=hp.pos;have e1:=Qs a (show 0<p by omega);have e2:=Qt a (show 0<p by omega);have e3:(Jag a p+p)%p=a%p:=by
  rw[U8];have:=Qb a p
  conv=>rhs;rw[←this]
  simp
 unfold zIA uK;rw[if_neg (by omega),bs,zE (by omega) (by omega),bs,if_neg (by omega),bs,Li (by omega),e3]
theorem zJV{a:Int}(_h0:-1000≤a)(_h1:a≤1000):zRi a p=ud (a%p):=by
 have h7:=hp.pos;have e1:=Qs a (show 0<p by omega);have e2:=Qt a (show 0<p by omega);have e3:(Jag a p+p)%p=a%p:=by
  rw[U8];have:=Qb a p
  conv=>rhs;rw[←this]
  simp
 unfold zRi uK;rw[if_neg (by omega),bs]
 by_cases h:Jag a p<0
 ·rw[ui h,zK,zE (by omega) (by omega),bs,←e3,Jr (by omega) (by omega)]
 ·rw[uh h,zM,←e3,U8,Jr (by omega) (by omega)]
theorem zGm{D:Nat}{r s:List Int}{k:Int}:Row p D (zAv p D r k s):=by have h7:=hp.pos;refine⟨yW _ _,fun i hi=>?_⟩;have e:at0 (zAv p D r k s) i=(at0 r i+k*at0 s i)%p:=wF hi;have e1:=Lw (at0 r i+k*at0 s i) (show p≠0 by omega);have e2:=L8 (at0 r i+k*at0 s i) (show 0<p by omega);omega
theorem zCV{k b:Int}(hk:-7≤k∧k≤7)(hb:0≤b∧b≤p-1):-49≤k*b∧k*b≤49:=by
 have h7:=hp.pos;rcases Int.le_total 0 k with h|h
 ·have h1:=Ga h hb.1
  have h2:=Ks hk.2 (show b≤7 by omega) hb.1 (by omega);omega
 ·have h1:=Ga (show 0≤ -k by omega) hb.1
  have h2:=Ks (show -k≤7 by omega) (show b≤7 by omega) hb.1 (by omega);rw[Int.neg_mul]at h1 h2;omega
theorem zEq{D:Nat}{r s:List Int}{k:Int}(hr:Row p D r)(hs:Row p D s)(hk:-7≤k∧k≤7)(hD:D≤1000000):f_H r s k p=ud (zAv p D r k s):=by
 have h7:=hp.pos;have:=zR (body:=zKu r s k p) (r:=zAv p D r k s) (fun i=>(zGI p D i r k s,(i:Int))) D (fun i hi=>by
  have a1:=hr.2 i hi;have a2:=hs.2 i hi;have a3:=zCV hp hk a2;unfold zKu;simp only
  rw[hr.1,xH hi,zK,xL (by grind[zD7]),bs,xL (by rw[hs.1];exact hi),bs,zE (by omega) (by omega),bs,zMK hi,zE (by omega) (by omega),bs,zJU hp (by omega) (by omega),bs,bs,zE (by omega) (by omega),bs,cs,Jd,zJT rfl]) (by
  unfold zKu;simp only
  rw[hr.1,tK,zM,zH1])
 rw[show((0:Nat):Int)=0 from rfl,zH0 hr.1]at this
 grind[f_H]
theorem sQ{D:Nat}{r s:List Int}{k:Int}(hr:Row p D r)(hs:Row p D s)(hk:-7≤k∧k≤7)(hD:D≤1000000):f_A p r k s=ud (zAv p D r k s):=by
 have h7:=hp.pos;have:=zR (body:=zRj p k s) (r:=zAv p D r k s) (fun i=>(zGI p D i r k s,(i:Int))) D (fun i hi=>by
  have a1:=hr.2 i hi;have a2:=hs.2 i hi;have a3:=zCV hp hk a2;unfold zRj;simp only
  rw[zD7,xH hi,zK,hs.1,xH hi,zK,xL (by grind[zD7]),bs,xL (by rw[hs.1];exact hi),bs,zE (by omega) (by omega),bs,zMK hi,zE (by omega) (by omega),bs,zJV hp (by omega) (by omega),bs,bs,zE (by omega) (by omega),bs,cs,Jd,zJT rfl]) (by
  unfold zRj;simp only
  rw[zD7,tK,zM,zH1])
 rw[show((0:Nat):Int)=0 from rfl,zH0 hr.1]at this;unfold f_A;rw[uX (by rw[hr.1];omega),bs,this,bs]
end
theorem zCW{p:Int}{D:Nat}{r s:List Int}:zAv p D r (p-1) s=zAv p D r (-1) s:=xI fun j _=>by rw[show at0 r j+(p-1)*at0 s j=at0 r j+ -1*at0 s j+p*at0 s j from by grind,Int.add_mul_emod_self_left]
theorem zN6{p:Int}{D:Nat}{r s:List Int}(hr:Row p D r)(hs:Row p D s):(∀j,j<D→at0 (zAv p D r (-1) s) j=0)↔r=s:=by
 constructor
 ·intro h
  rw[sK hr.1,sK hs.1];refine xI fun j hj=>?_
  have h1:=h j hj;rw[zAv,wF hj]at h1;have a1:=hr.2 j hj;have a2:=hs.2 j hj;obtain⟨c,hc⟩:=Uu h1;have:c=0:=by
   rcases Int.lt_trichotomy c 0 with h|h|h
   ·have:=H4 (show c≤ -1 by omega) (show 0≤p by omega);omega
   ·exact h
   ·have:=H4 (show 1≤c by omega) (show 0≤p by omega);omega
  grind
 ·rintro rfl j hj
  rw[zAv,wF hj,show at0 r j+ -1*at0 r j=0 from by omega];simp
end Go.Pl

namespace Go.Pl
open Go Go.Ab Go.Wk Go.Pc
def VOk(n:Nat)(p:Int)(D:Nat)(vals:Mx):Prop:=vals.length=n∧ ∀i,i<n→Row p D (vals.getD i [])
def stp(m:zC)(D:Nat)(vals:Mx)(v:List Int)(w:Nat):List Int:=zAv m.Prime D (tL m.Prime D v (m.zJ.getD w [])) 1 (vals.getD w [])
def ev(m:zC)(D:Nat)(vals:Mx)(v:List Int)(ws:List Nat):List Int:=ws.foldl (stp m D vals) v
theorem zH2{m:zC}{D:Nat}{vals:Mx}{v:List Int}{a b:List Nat}:ev m D vals v (a++b)=ev m D vals (ev m D vals v a) b:=by simp[ev,Qr]
theorem zLj{m:zC}{D:Nat}{vals:Mx}{w:Nat}:∀(k:Nat)(v:List Int),ev m D vals v (J1 k w)=iter k (fun v=>stp m D vals v w) v
 |0,_=>rfl
 |k+1,v=>by rw[K6];show ev m D vals (stp m D vals v w) (J1 k w)=_;rw[zLj k];rfl
abbrev z0(D:Nat):List Int:=J1 D 0
theorem zIt{p:Int}{D:Nat}(hp:0<p):Row p D (z0 D):=by
 refine⟨by simp,fun i hi=>?_⟩
 grind
theorem jF{p:Int}{D:Nat}{r:List Int}{B:Mx}(hp:0<p):Row p D (tL p D r B):=by
 refine⟨yW _ _,fun i hi=>?_⟩;have e1:=Lw (S D (fun l=>at0 r l*ent B l i)) (show p≠0 by omega);have e2:=L8 (S D (fun l=>at0 r l*ent B l i)) hp
 grind[tL,wF]
section
variable {n D:Nat}{m:zC} (hm:MOk n m D) (hn:n≤9) {vals:Mx} (hv:VOk n m.Prime D vals)
 include hm hn hv
theorem zAX{v:List Int}{w:Nat}:Row m.Prime D (stp m D vals v w):=by have _:=hn;have _:=hv;exact zGm hm.p
theorem zCX{v:List Int}(h:Row m.Prime D v):∀ws,Row m.Prime D (ev m D vals v ws):=by
 intro ws
 induction ws generalizing v with
 |nil=>exact h
 |cons w ws ih=>exact ih (zAX hm hn hv)
theorem zAG{v:List Int}{w:Nat}(h:Row m.Prime D v)(hw:w<n):zK0 m vals v (w:Int)=ud (stp m D vals v w):=by have _:=hn;have h7:=hm.p.pos;have h3:=hm.d3;unfold zK0;rw[zY [] (by rw[hm.len];exact hw),bs,hm.d,zCU hm.p (by omega) h (hm.mat w hw),bs,zY [] (by rw[hv.1];exact hw),bs,sQ hm.p (jF (by omega)) (hv.2 w hw) (by omega) (by omega),bs];rfl
theorem zEH{v x:List Int}(h:Row m.Prime D v)(hl:x.length=n)(hx:∀i,i<n→0≤at0 x i∧at0 x i≤6):f_N m vals v x=ud (ev m D vals v (nw 0 x)):=by
 have:=zR (body:=zRn m vals x) (r:=ev m D vals v (nw 0 x)) (fun i=>(ev m D vals v (nw 0 (x.take i)),(i:Int))) n (fun i hi=>by
  have ac:=hx i hi;unfold zRn;simp only
  rw[hl,xH hi,zK];rw[vD (S:=Row m.Prime D) (body:=zRm m vals x (ev m D vals v (nw 0 (x.take i)),(i:Int))) (fun v=>v) (fun v=>stp m D vals v i) (at0 x i) ac.1 (by grind[zAX]) (fun u q hu hq=>by
   unfold zRm;simp only
   rw[xL (by omega),bs,ui hq,zK,zAG hm hn hv hu hi,bs,zE (by omega) (by omega),bs,cs]) (fun u hu=>by
   unfold zRm;simp only
   rw[xL (by omega),bs,uh (by omega),zM]) (zCX hm hn hv h _),bs,zE (by omega) (by omega),bs,cs]
  grind[zIr,zH2,zLj]) (by
  unfold zRn
  grind)
 rw[show((0:Nat):Int)=0 from rfl,Ko]at this
 grind[nw,ev,f_N]
theorem zD8{ws:List Nat}(hw:∀w∈ws,w<n)(hl:ws.length≤1000):zRp m vals (enW ws)=ud (ev m D vals (z0 D) ws):=by
 have h7:=hm.p.pos;have h3:=hm.d3;unfold zRp;rw[hm.d,yN (by omega),bs];have hz:=zIt (p:=m.Prime) (D:=D) (by omega);have az:(enW ws).length=ws.length:=by simp
 have:=zR (body:=zK1 m vals (enW ws)) (r:=ev m D vals (z0 D) ws) (fun i=>(ev m D vals (z0 D) (ws.take i),(i:Int))) ws.length (fun i hi=>by
  have pT:=hw ws[i] (Jx hi);have hr:=zCX hm hn hv hz (ws.take i);unfold zK1;simp only
  rw[az,xH hi,zK,vC,Jo,J5 hi];simp only[Hc];rw[bs,zE (by omega) (by omega),bs,show((ws[i]:Nat):Int)+1-1=((ws[i]:Nat):Int)from by omega,zC3 hm hn pT,bs,zAF hm.p (by omega) hr (hm.mat _ pT) rfl,bs,bs,zY [] (by rw[hv.1];exact pT),bs,zEq hm.p (jF (by omega)) (hv.2 _ pT) (by omega) (by omega),bs,zE (by omega) (by omega),bs,cs,Jm hi,zH2];rfl) (by
  unfold zK1;simp)
 rw[show((0:Nat):Int)=0 from rfl,Ko]at this
 grind[ev]
end
theorem zJW{v:List Int}(hl:v.length≤1000000):IsB (f_Y v) (∀i,i<v.length→at0 v i=0):=by
 refine tU v.length (fun i=>at0 v i=0) rfl (fun i hi _=>?_) ?_
 ·unfold zNP
  rw[xH hi,zK,xL hi,bs]
  by_cases h:at0 v i=0
  ·rw[show(at0 v i != 0)=ug from by grind,zM,zE (by omega) (by omega),bs,cs];grind
  grind
 ·unfold zNP
  simp
theorem zH3{v:List Int}(hl:v.length≤1000000):IsB (zSX v) (∀i,i<v.length→at0 v i=0):=zJW hl
section
variable {x:SPr} (h:Pres x) {m:zC}{D:Nat} (hm:MOk x.zA.length m D) {vals:Mx} (hv:VOk x.zA.length m.Prime D vals)
 include h hm hv
abbrev dfc(m:zC)(D:Nat)(vals:Mx)(q:Rl):List Int:=zAv m.Prime D (ev m D vals (z0 D) q.1) (-1) (ev m D vals (z0 D) q.2)
theorem zSs:(wL x).length≤100:=by
 have _:=hv;have _:=hm;have h6:=h.os.1;have ay:=zGk h x.zA.length (Jh _)
 grind[wL]
theorem zIu:zSZ x m vals=ud ((wL x).map (dfc m D vals)):=by
 have h6:=h.os.1;have h7:=hm.p.pos;have h3:=hm.d3;have mc:=zSs h hm hv;have hz:=zIt (p:=m.Prime) (D:=D) (by omega);unfold zSZ;rw[kS h,bs];have:=zR (body:=zK2 m vals ((wL x).map enR)) (r:=(wL x).map (dfc m D vals)) (fun i=>(((wL x).map (dfc m D vals)).take i,(i:Int))) (wL x).length (fun i hi=>by
  have gx:(wL x)[i]∈wL x:=Jx hi;obtain⟨⟨g1,g2⟩,g3,g4⟩:=zHz h gx;unfold zK2;simp only
  rw[Jj,xH hi,zK,vC,Jo,J5 hi];simp only[Hc];rw[bs,zD8 hm h6 hv g1 g2,bs,zD8 hm h6 hv g3 g4,bs,zEq hm.p (zCX hm h6 hv hz _) (zCX hm h6 hv hz _) (by omega) (by omega),bs,yC (by simp;omega),bs,zE (by omega) (by omega),bs,cs,Jm (by simpa using hi)];simp) (by
  unfold zK2;simp only
  rw[Jj,tK,zM,Jq (by simp)])
 grind
end
end Go.Pl

namespace Go.Pl
open Go Go.Ab Go.Wk Go.Pc
theorem zH4{m:zC}{D:Nat}{vals:Mx}(hp:Prime m.Prime)(hd:m.Dim=(D:Int))(hD:D≤8)(hl:vals.length≤1048576):IsB (zSY m vals) (∀i,i<vals.length→Row m.Prime D (vals.getD i [])):=by
 refine tU vals.length (fun i=>Row m.Prime D (vals.getD i [])) rfl (fun i hi _=>?_) ?_
 ·refine vV (zEG hp hD (r:=vals.getD i [])) (by omega) ?_
  unfold zNb;rw[xH hi,zK,zY [] hi,bs,hd]
 ·unfold zNb
  simp
theorem zN7{m:zC}{D:Nat}{vals:Mx}(hp:Prime m.Prime)(hd:m.Dim=(D:Int))(hD:D≤8)(hl:vals.length≤1048576):IsB (f_T m vals) (∀i,i<vals.length→Row m.Prime D (vals.getD i [])):=by
 refine tU vals.length (fun i=>Row m.Prime D (vals.getD i [])) rfl (fun i hi _=>?_) ?_
 ·refine vV (zBL hp hD (r:=vals.getD i [])) (by omega) ?_
  unfold zLO;rw[xH hi,zK,zY [] hi,bs,hd]
 ·unfold zLO
  simp
theorem zP9{a b:Int}(h:a=b):(a==b)=uf:=by simp[h]
theorem zML{a b:Int}(h:a≠b):(a==b)=ug:=by simp[h]
theorem zJX{x:SPr}{m:zC}{D:Nat}{vals:Mx}(hp:Prime m.Prime)(hd:m.Dim=(D:Int))(hD:D≤8)(hl:vals.length≤1048576):IsB (zRo x m vals) (VOk x.zA.length m.Prime D vals):=by
 unfold zRo
 by_cases hn:vals.length=x.zA.length
 ·rw[zP9 (by omega),zK]
  exact(IsB.b (zH4 hp hd hD hl)).iff ⟨fun g=>⟨hn,by grind⟩,fun g i hi=>g.2 i (by omega)⟩
 ·rw[zML (by omega),zM];exact .inr ⟨rfl,fun g=>hn g.1⟩
theorem zJY{x:SPr}{m:zC}{D:Nat}{vals:Mx}(hp:Prime m.Prime)(hd:m.Dim=(D:Int))(hD:D≤8)(hl:vals.length≤1048576):IsB (zRl x m vals) (VOk x.zA.length m.Prime D vals):=by
 unfold zRl
 by_cases hn:vals.length=x.zA.length
 ·rw[zP9 (by omega),zK]
  exact(IsB.b (zN7 hp hd hD hl)).iff ⟨fun g=>⟨hn,by grind⟩,fun g i hi=>g.2 i (by omega)⟩
 ·rw[zML (by omega),zM];exact .inr ⟨rfl,fun g=>hn g.1⟩
end Go.Pl

namespace Go.Pl
open Go Go.Ab Go.Wk Go.Pc
theorem IsB.both{o o':Option Bool}{P:Prop}(h:IsB o P)(h':IsB o' P):(o=ud uf∧o'=ud uf∧P)∨(o=ud ug∧o'=ud ug∧ ¬P):=by
 rcases h with⟨h1,h2⟩|⟨h1,h2⟩<;>rcases h' with⟨h3,h4⟩|⟨h3,h4⟩
 all_goals grind
end Go.Pl

namespace Go.Pl
open Go Go.Ab Go.Wk Go.Pc
def Sp(p:Int)(n:Nat)(R:Mx)(v:List Int):Prop:=∃c:Nat→Int,∀j,j<n→(S R.length fun i=>c i*ent R i j)%p=at0 v j%p
def zXX(p:Int)(n:Nat)(R R':Mx):Prop:=(∀i,i<R.length→Sp p n R' (R.getD i []))∧ ∀i,i<R'.length→Sp p n R (R'.getD i [])
end Go.Pl

namespace Go.Pl
open Go Go.Ab Go.Wk Go.Pc
def mkR(m:Nat)(F:Nat→List Int):Mx:=(Jk m).map F
theorem zSt{m:Nat}{F:Nat→List Int}:(mkR m F).length=m:=by simp[mkR]
theorem zSu{m:Nat}{F:Nat→List Int}{i:Nat}(h:i<m):(mkR m F).getD i []=F i:=by simp[mkR,J3,h]
theorem zUA{R:Mx}{m:Nat}(h:R.length=m):R=mkR m (fun i=>R.getD i []):=zIo (D:=m) h zSt (by grind[zSu])
theorem zPA{s:Nat→Int×Int×Int×Int}(n:Nat){r:Int×Int}(h:∀i,i<n→zNV (s i)=ud (.inl (s (i+1))))(he:zNV (s n)=ud (.inr r)){p q:Int}(hq:zIA r.2 p=ud q)(h1:r.1=1)(hs:s 0=(p,(s 0).2.1,0,1)):
  f_U (s 0).2.1 p=ud (q,uf):=by
 unfold f_U;rw[←hs,zR s n h he,bs,hq,bs,h1];rfl
def zPB:List (Int×Int×Int×Int)→Nat→Int×Int×Int×Int:=fun l i=>l.getD i (0,0,0,0)
theorem uG(l:List (Int×Int×Int×Int))(n:Nat){r:Int×Int}(h:∀i,i<n→zNV (zPB l i)=ud (.inl (zPB l (i+1))))(he:zNV (zPB l n)=ud (.inr r)){p q x:Int}(hq:zIA r.2 p=ud q)(h1:r.1=1)(hs:zPB l 0=(p,x,0,1)):
  f_U x p=ud (q,uf):=by
 have:=zPA (s:=zPB l) n h he hq h1 (by rw[hs])
 grind
theorem lt1{P:Nat→Prop}(h0:P 0):∀i,i<1→P i:=by grind
theorem lt2{P:Nat→Prop}(h0:P 0)(h1:P 1):∀i,i<2→P i:=by grind
theorem lt3{P:Nat→Prop}(h0:P 0)(h1:P 1)(h2:P 2):∀i,i<3→P i:=by grind
theorem zD9{p x:Int}(hp:Prime p)(h0:1≤x)(h1:x≤p-1):∃r,f_U x p=ud (r,uf)∧0≤r∧r≤p-1∧(x*r)%p=1:=by
 have c:(p=2∧x=1)∨(p=3∧(x=1∨x=2))∨(p=5∧(x=1∨x=2∨x=3∨x=4))∨(p=7∧(x=1∨x=2∨x=3∨x=4∨x=5∨x=6)):=by unfold Prime at hp;omega
 rcases c with⟨rfl,rfl⟩|⟨rfl,rfl|rfl⟩|⟨rfl,rfl|rfl|rfl|rfl⟩|⟨rfl,rfl|rfl|rfl|rfl|rfl|rfl⟩
 ·exact⟨1,uG [(2,1,0,1),(1,0,1,-2)] 1 (lt1 (by rfl)) (r:=(1,1)) (by rfl) (by rfl) rfl rfl,by decide,by decide,by decide⟩
 ·exact⟨1,uG [(3,1,0,1),(1,0,1,-3)] 1 (lt1 (by rfl)) (r:=(1,1)) (by rfl) (by rfl) rfl rfl,by decide,by decide,by decide⟩
 ·exact⟨2,uG [(3,2,0,1),(2,1,1,-1),(1,0,-1,3)] 2 (lt2 (by rfl) (by rfl)) (r:=(1,-1)) (by rfl) (by rfl) rfl rfl,by decide,by decide,by decide⟩
 ·exact⟨1,uG [(5,1,0,1),(1,0,1,-5)] 1 (lt1 (by rfl)) (r:=(1,1)) (by rfl) (by rfl) rfl rfl,by decide,by decide,by decide⟩
 ·exact⟨3,uG [(5,2,0,1),(2,1,1,-2),(1,0,-2,5)] 2 (lt2 (by rfl) (by rfl)) (r:=(1,-2)) (by rfl) (by rfl) rfl rfl,by decide,by decide,by decide⟩
 ·exact⟨2,uG [(5,3,0,1),(3,2,1,-1),(2,1,-1,2),(1,0,2,-5)] 3 (lt3 (by rfl) (by rfl) (by rfl)) (r:=(1,2)) (by rfl) (by rfl) rfl rfl,by decide,by decide,by decide⟩
 ·exact⟨4,uG [(5,4,0,1),(4,1,1,-1),(1,0,-1,5)] 2 (lt2 (by rfl) (by rfl)) (r:=(1,-1)) (by rfl) (by rfl) rfl rfl,by decide,by decide,by decide⟩
 ·exact⟨1,uG [(7,1,0,1),(1,0,1,-7)] 1 (lt1 (by rfl)) (r:=(1,1)) (by rfl) (by rfl) rfl rfl,by decide,by decide,by decide⟩
 ·exact⟨4,uG [(7,2,0,1),(2,1,1,-3),(1,0,-3,7)] 2 (lt2 (by rfl) (by rfl)) (r:=(1,-3)) (by rfl) (by rfl) rfl rfl,by decide,by decide,by decide⟩
 ·exact⟨5,uG [(7,3,0,1),(3,1,1,-2),(1,0,-2,7)] 2 (lt2 (by rfl) (by rfl)) (r:=(1,-2)) (by rfl) (by rfl) rfl rfl,by decide,by decide,by decide⟩
 ·exact⟨2,uG [(7,4,0,1),(4,3,1,-1),(3,1,-1,2),(1,0,2,-7)] 3 (lt3 (by rfl) (by rfl) (by rfl)) (r:=(1,2)) (by rfl) (by rfl) rfl rfl,by decide,by decide,by decide⟩
 ·exact⟨3,uG [(7,5,0,1),(5,2,1,-1),(2,1,-1,3),(1,0,3,-7)] 3 (lt3 (by rfl) (by rfl) (by rfl)) (r:=(1,3)) (by rfl) (by rfl) rfl rfl,by decide,by decide,by decide⟩
 ·exact⟨6,uG [(7,6,0,1),(6,1,1,-1),(1,0,-1,7)] 2 (lt2 (by rfl) (by rfl)) (r:=(1,-1)) (by rfl) (by rfl) rfl rfl,by decide,by decide,by decide⟩
end Go.Pl

namespace Go.Pl
open Go Go.Ab Go.Wk Go.Pc
end Go.Pl

namespace Go.Pl
open Go Go.Ab Go.Wk Go.Pc
theorem zGn{v:List Int}(h:v.length≤1000000):f_D v=ud v:=by grind[f_D,yC]
end Go.Pl

namespace Go.Pl
open Go Go.Ab Go.Wk Go.Pc
end Go.Pl

namespace Go.Pl
open Go Go.Ab Go.Wk Go.Pc
theorem zPC{p x:Int}(hp:Prime p)(h0:1≤x)(h1:x≤p-1):∃r,zSS x p=ud r∧0≤r∧r≤p-1∧(x*r)%p=1:=by
 have h7:=hp.pos;have hx:∃k:Nat,1≤k∧(k:Int)<p∧(x*(k:Int))%p=1:=by
  obtain⟨r,_,r1,r2,r3⟩:=zD9 hp h0 h1;refine⟨r.toNat,?_,by omega,by grind⟩;rcases Int.lt_or_eq_of_le r1 with g|g
  ·omega
  ·rw[←g]at r3;simp at r3
 obtain⟨k,⟨k1,k2,k3⟩,pf⟩:=zGS hx;have body:∀i:Nat,1≤i→(i:Int)<p→zKz x p (i:Int)=cond ((x*(i:Int))%p==1) (ud (.inr (.inr (i:Int)))) (ud (.inl ((i+1:Nat):Int))):=fun i hi hip=>by
  have a3:=Ga (show 0≤x by omega) (show 0≤(i:Int)by omega);have a4:=zCV hp (k:=(i:Int)) (by omega) (b:=x) ⟨by omega,h1⟩;rw[Int.mul_comm]at a4;unfold zKz;rw[ui hip,zK,zJV hp (by omega) (by omega),bs,Jr (by omega) (by omega),zE (by omega) (by omega),bs];unfold uK;rw[if_neg (by omega),bs,Li a3]
  by_cases hh:(x*(i:Int))%p=1
  ·grind
  ·rw[zML hh,zM,zM,zE (by omega) (by omega),bs,cs]
 have t7:∀q,q+1≤k→zI (zKz x p) ((k-q:Nat):Int)=ud (.inr (k:Int)):=by
  intro q
  induction q with
  |zero=>
   intro _;rw[xK,show k-0=k from rfl,body k k1 k2,zP9 k3,zK]
  |succ q ih=>
   intro hq;have gj:(x*((k-(q+1):Nat):Int))%p≠1:=by grind
   rw[xK,body _ (by omega) (by omega),zML gj,zM,show k-(q+1)+1=k-q from by omega]
   grind
 have:=t7 (k-1) (by omega);rw[show k-(k-1)=1 from by omega,show((1:Nat):Int)=1 from rfl]at this
 grind[zSS]
end Go.Pl

namespace Go.Pl
open Go Go.Ab Go.Wk Go.Pc
end Go.Pl

namespace Go.Pl
open Go Go.Ab Go.Wk Go.Pc
end Go.Pl

namespace Go.Pl
open Go Go.Ab Go.Wk Go.Pc
theorem zDA{β:Type}{body:List β×Int→Option ((List β×Int)⊕List β)}(n:Nat)(F:Nat→β)(h:∀i acc,i<n→acc.length=i→body (acc,(i:Int))=ud (.inl (acc++[F i],((i+1:Nat):Int))))(he:∀acc,body (acc,(n:Int))=ud (.inr acc)):
  zI body ([],0)=ud ((Jk n).map F):=by
 have:=zR (body:=body) (r:=(Jk n).map F) (fun i=>((Jk i).map F,(i:Int))) n (by grind[Kv]) (he _);exact this
theorem zH5{xs:Mx}(hx:xs.length≤100000)(hf:xs.flatten.length≤1000000):f_V xs=ud xs.flatten:=by
 unfold f_V;have:=zR (body:=zRw xs) (r:=xs.flatten) (fun i=>((xs.take i).flatten,(i:Int))) xs.length (fun i hi=>by
  have h1:=zEp hi;have h2:=zIs (xs:=xs) (i+1);have h3:=congrArg Uf h1;rw[J7]at h3;unfold zRw;simp only
  rw[xH hi,zK,zY [] hi,bs,yC (by omega),bs,zE (by omega) (by omega),bs,cs,h1]) (by
  unfold zRw;simp)
 grind
theorem zSv{p:Int}{L:Nat}{v:List Int}:Row p L v↔v.length=L∧ ∀a∈v,0≤a∧a≤p-1:=by
 constructor
 ·rintro⟨h1,h2⟩
  refine⟨h1,fun a ha=>?_⟩;obtain⟨i,hi,rfl⟩:=K1.1 ha
  grind
 ·rintro⟨h1,h2⟩
  refine⟨h1,fun i hi=>?_⟩
  simp_all
theorem zDB{D:Nat}:∀{xs:Mx},(∀r∈xs,r.length=D)→xs.flatten.length=xs.length*D
 | [],_=>by simp
 |x::xs,h=>by
  have:=zDB (xs:=xs) fun r hr=>h r (by simp[hr])
  grind
theorem zJZ{p:Int}{D:Nat}{xs:Mx}(h:∀r∈xs,Row p D r):Row p (xs.length*D) xs.flatten:=by grind[zSv,zDB,List.mem_flatten]
def vL(D k:Nat):List Int:=mkv D fun j=>if j=k then 1 else 0
theorem jK{D k:Nat}(hk:k<D)(hD:D≤1000000):zI9 (D:Int) (k:Int)=ud (vL D k):=by grind[zI9,yN,xL,jE,zD6,vL]
end Go.Pl

namespace Go.Pl
open Go Go.Ab Go.Wk Go.Pc
abbrev gl{β:Type}(m:Nat)(F:Nat→β):List β:=(Jk m).map F
theorem uP{β:Type}{m:Nat}{F:Nat→β}:(gl m F).length=m:=by simp[gl]
theorem zKa{β:Type}{m:Nat}{F:Nat→β}{i:Nat}(h:i<m):ixO (gl m F) (i:Int)=ud (F i):=by rw[jW (by grind)];simp[gl]
theorem kV{β:Type}{m:Nat}{F G:Nat→β}(h:∀i,i<m→F i=G i):gl m F=gl m G:=by grind[Ja7]
theorem zLk{β:Type}{m:Nat}{F:Nat→β}{i:Nat}{a:β}:(gl m F).set i a=gl m (fun k=>if k=i then a else F k):=by
 apply Kd
 grind
theorem qV{β:Type}{m:Nat}{F:Nat→β}:gl m F++[F m]=gl (m+1) F:=by simp[gl,Kv]
def base(n i:Nat):Nat:=n+i*n-i*(i+1)/2
theorem zN8:∀n,n<7→ ∀i,i<n→base n (i+1)=base n i+(n-1-i):=by decide
theorem zDC:∀n,n<7→ ∀i,i<n→base n i+(n-1-i)≤base n n:=by decide
theorem tX:∀n,n<7→n≤base n n∧base n n≤21∧base n 0=n:=by decide
theorem zGo:∀n:Nat,n<7→ ∀j:Nat,j<n→ ∀i:Nat,i<j→zSU (n:Int) (i:Int) (j:Int)=ud ((base n i+(j-i-1):Nat):Int):=by decide+kernel
def exP(n D:Nat)(x:SPr)(T:Mx)(i:Nat):List Int:=if i<n then x.zV.getD i []++T.getD i []else J1 (n+D) 0
def exF(n:Nat)(x:SPr)(m:zC)(T:Mx)(i j:Nat):List Int:=if j<n-1-i then(x.zD.getD i []).getD j []++T.getD (base n i+j) []else J1 n 0++(m.zJ.getD i []).getD (j-(n-1-i)) []
def unC(N i:Nat):Mx:=gl (N-1-i) fun j=>vL N (i+1+j)
def exC(n D:Nat)(x:SPr)(m:zC)(T:Mx)(i:Nat):Mx:=if i<n then gl (n+D-1-i) (exF n x m T i)else unC (n+D) i
def ext(n D:Nat)(x:SPr)(m:zC)(T:Mx):SPr:=⟨x.zA++J1 D m.Prime,gl (n+D) (exP n D x T),gl (n+D) (exC n D x m T)⟩
structure zGp (n D:Nat) (x:SPr) (m:zC) (T:Mx):Prop where
 hn:n≤6
 o:x.zA.length=n
 p:x.zV.length=n
 c:x.zD.length=n
 cl:∀i,i<n→(x.zD.getD i []).length=n-1-i
 pl:∀i,(x.zV.getD i []).length≤6
 ce:∀i j,((x.zD.getD i []).getD j []).length≤6
 t:T.length=base n n
 tl:∀i,(T.getD i []).length≤30
 m:zU7 n m D
section
variable {n D:Nat}{x:SPr}{m:zC}{T:Mx} (h:zGp n D x m T)
 include h
theorem zW5{N k:Nat}(hk:k<N)(hN:N≤100):zKo (N:Int) (k:Int)=ud (vL N k):=by
 have _:=h;unfold zKo;rw[yN (by omega),bs,xL (by grind),bs]
 congr 1
 apply Kd;intro j
 by_cases hj:j<N
 ·by_cases cQ:k=j
  ·grind[vL,mkv]
  ·rw[Jd,Jb4 cQ];simp[vL,mkv,hj,Ne.symm cQ]
 grind[vL,mkv]
theorem zW6{i:Nat}(hi:i<n){P:Mx}{C:List Mx}:zI (zNW x T (P,C,(i:Int))) ([],((i+1:Nat):Int))=ud (gl (n-1-i) (exF n x m T i)):=by
 have h6:=h.hn;have hc:=h.cl i hi;have:=zR (body:=zNW x T (P,C,(i:Int))) (r:=gl (n-1-i) (exF n x m T i)) (fun j=>(gl j (exF n x m T i),((i+1+j:Nat):Int))) (n-1-i) (fun j hj=>by
  have hb:=zDC n (by omega) i hi;have a1:=h.ce i j;have a2:=h.tl (base n i+j);have e:exF n x m T i j=(x.zD.getD i []).getD j []++T.getD (base n i+j) []:=if_pos hj;unfold zNW;simp only
  rw[h.o,xH (by omega),zK,zY [] (by grind),bs,zE (by omega) (by omega),bs,zE (by omega) (by omega),bs,
   show((i+1+j:Nat):Int)-(i:Int)-1=(j:Int)from by omega,zY [] (by omega),bs,uX (by omega),bs,
   zGo n (by omega) (i+1+j) (by omega) i (by omega),bs,show i+1+j-i-1=j from by omega,zY [] (by rw[h.t];omega),bs,yC (by omega),bs,yC (by rw[uP];simp;omega),bs,zE (by omega) (by omega),bs,cs,←e,qV];rfl) (by
  unfold zNW;simp only
  rw[h.o,show i+1+(n-1-i)=n from by omega,tK,zM])
 exact this
theorem zW7{i:Nat}(hi:i<n){P:Mx}{C:List Mx}:zI (zNX x m (P,C,(i:Int))) (gl (n-1-i) (exF n x m T i),0)=ud (gl (n+D-1-i) (exF n x m T i)):=by
 have h6:=h.hn;have h3:=h.m.d3;have pe:=h.m.mat i hi;have:=zR (body:=zNX x m (P,C,(i:Int))) (r:=gl (n+D-1-i) (exF n x m T i)) (fun j=>(gl (n-1-i+j) (exF n x m T i),((j:Nat):Int))) D (fun j hj=>by
  have e:exF n x m T i (n-1-i+j)=J1 n 0++(m.zJ.getD i []).getD j []:=by rw[exF,if_neg (by omega),show n-1-i+j-(n-1-i)=j from by omega]
  have hr:=(pe.2 j hj).1;unfold zNX;simp only
  rw[h.m.d,xH hj,zK,h.o,yN (by omega),bs,zY [] (by grind),bs,zY [] (by rw[pe.1];exact hj),bs,yC (by rw[hr];simp;omega),bs,yC (by rw[uP];simp;omega),bs,zE (by omega) (by omega),bs,cs,←e,qV];rfl) (by
  unfold zNX;simp only
  rw[h.m.d,tK,zM,show n-1-i+D=n+D-1-i from by omega])
 exact this
theorem zW8:zI (zLI x m T) ([],[],0)=ud (gl n (exP n D x T),gl n (exC n D x m T)):=by
 have h6:=h.hn;have h3:=h.m.d3;have hb:=tX n (by omega);have:=zR (body:=zLI x m T) (r:=(gl n (exP n D x T),gl n (exC n D x m T))) (fun i=>(gl i (exP n D x T),gl i (exC n D x m T),((i:Nat):Int))) n (fun i hi=>by
  have a1:=h.pl i;have a2:=h.tl i;have e1:exP n D x T i=x.zV.getD i []++T.getD i []:=if_pos hi;have e2:exC n D x m T i=gl (n+D-1-i) (exF n x m T i):=if_pos hi;unfold zLI;simp only
  rw[h.o,xH hi,zK,zY [] (by rw[h.p];exact hi),bs,uX (by omega),bs,zY [] (by rw[h.t];omega),bs,yC (by omega),bs,yC (by rw[uP];simp;omega),bs,zE (by omega) (by omega),bs,cs,
   zW6 h hi,bs,zW7 h hi,bs,yC (by rw[uP];simp;omega),bs,bs,←e1,←e2,qV,qV]) (by
  unfold zLI;simp only
  rw[h.o,tK,zM])
 exact this
theorem zW9{k:Nat}(hk:k<D):zI (zNY x m) ([],((k+1:Nat):Int))=ud (unC (n+D) (n+k)):=by
 have h6:=h.hn;have h3:=h.m.d3;have:=zR (body:=zNY x m) (r:=unC (n+D) (n+k)) (fun j=>(gl j fun j=>vL (n+D) (n+k+1+j),((k+1+j:Nat):Int))) (D-1-k) (fun j hj=>by
  unfold zNY;simp only
  rw[h.m.d,xH (by omega),zK,h.o,zE (by omega) (by omega),bs,zE (by omega) (by omega),bs,←Hx,←Hx,zW5 h (by omega) (by omega),bs,yC (by rw[uP];simp;omega),bs,zE (by omega) (by omega),bs,cs,show n+(k+1+j)=n+k+1+j from by omega,qV (F:=fun j=>vL (n+D) (n+k+1+j))];rfl) (by
  unfold zNY;simp only
  rw[h.m.d,show k+1+(D-1-k)=D from by omega,tK,zM,unC,show n+D-1-(n+k)=D-1-k from by omega])
 exact this
theorem zWA:zI (zLJ x m) (gl n (exP n D x T),gl n (exC n D x m T),0)=ud (gl (n+D) (exP n D x T),gl (n+D) (exC n D x m T)):=by
 have h6:=h.hn;have h3:=h.m.d3;have:=zR (body:=zLJ x m) (r:=(gl (n+D) (exP n D x T),gl (n+D) (exC n D x m T))) (fun k=>(gl (n+k) (exP n D x T),gl (n+k) (exC n D x m T),((k:Nat):Int))) D (fun k hk=>by
  have e1:exP n D x T (n+k)=J1 (n+D) 0:=if_neg (by omega);have e2:exC n D x m T (n+k)=unC (n+D) (n+k):=if_neg (by omega);unfold zLJ;simp only
  rw[h.m.d,xH hk,zK,h.o,zE (by omega) (by omega),bs,←Hx,yN (by omega),bs,yC (by grind),bs,zE (by omega) (by omega),bs,cs,zW9 h hk,bs,yC (by rw[uP];simp;omega),bs,bs,←e1,←e2,qV,qV];rfl) (by
  unfold zLJ;simp only
  rw[h.m.d,tK,zM])
 exact this
theorem zPD:f_g x m T=ud (ext n D x m T):=by
 have h6:=h.hn;have h3:=h.m.d3;have:=zR (body:=zRk m) (r:=x.zA++J1 D m.Prime) (fun i=>(x.zA++J1 i m.Prime,((i:Nat):Int))) D (fun i hi=>by
  unfold zRk;simp only
  rw[h.m.d,xH hi,zK,yC (by rw[J7,h.o];simp;omega),bs,zE (by omega) (by omega),bs,cs,J9,←G9]) (by
  unfold zRk;simp only
  rw[h.m.d,tK,zM])
 rw[Lf,Jf,show((0:Nat):Int)=0 from rfl]at this;unfold f_g;rw[uX (by rw[h.o];omega),bs,this,bs,zW8 h,bs,zWA h,bs];rfl
end
end Go.Pl

namespace Go.Pl
open Go Go.Ab Go.Wk Go.Pc
theorem zIv{a b:List Int}(ha:a.length≤1000)(hb:b.length≤1000):f_q [a,b]=ud (a++b):=by grind[zAj]
theorem zH6{v:Int}{k:Nat}(hk:k≤1000):∀d c:Nat,c≤k→(c=0→k=0)→k-c≤d→zI zEP (J1 c v++J1 (k-c) 0,(c:Int))=ud (J1 k v):=by
 intro d
 induction d with
 |zero=>
  intro c h1 _ h3;obtain rfl:c=k:=by omega
  rw[xK];unfold zEP;simp
 |succ d ih=>
  intro c h1 h2 h3
  by_cases hc:c=k
  ·grind
  ·have hl:(J1 c v++J1 (k-c) (0:Int)).length=k:=by simp;omega
   have s1:yB (J1 c v++J1 (k-c) (0:Int)) (c:Int) (k:Int)=ud (((J1 c v++J1 (k-c) (0:Int)).drop c).take (k-c)):=by
    unfold yB
    simp_all
   have s2:yB (J1 c v++J1 (k-c) (0:Int)) 0 (c:Int)=ud (J1 c v):=by
    unfold yB
    simp_all
   have e1:(J1 c v).take (k-c)=J1 (min (k-c) c) v:=by simp
   have e2:vS (J1 c v++J1 (k-c) (0:Int)) c (J1 (min (k-c) c) v)=J1 (c+min c (k-c)) v++J1 (k-(c+min c (k-c))) 0:=by
    unfold vS;rw[K7 (by simp),Jy,Nat.min_comm (k-c) c,Jb,Ja1,Jy,H6 (by rw[Jy];omega),Jw,Lo]
    congr 2;omega
   have hb:zEP (J1 c v++J1 (k-c) 0,(c:Int))=ud (.inl (J1 (c+min c (k-c)) v++J1 (k-(c+min c (k-c))) 0,((c+min c (k-c):Nat):Int))):=by
    unfold zEP;simp only
    rw[hl,xH (by omega),zK,s1,bs,s2,bs,Jy];simp only[Jd];rw[e1,e2,←Hx,zE (by omega) (by omega),bs]
   rw[xK,hb];exact ih (c+min c (k-c)) (by omega) (by omega) (by omega)
theorem zLl{v:Int}{k:Nat}(hk:k≤30):f_u [v] (k:Int)=ud (J1 k v):=by
 have key:∀k:Nat,k<31→zQM 1 (IntKind.wrap .u64 (k:Int))=ud (0,(k:Int))∧yT (IntKind.wrap .i64 (k:Int))=ud k:=by decide+kernel
 obtain⟨k1,k2⟩:=key k (by omega);unfold f_u;rw[uh (by omega),zM,zP8 k1,bs];simp only[k2,bs];rw[show decide ((0:Int)> 0)=ug from rfl,zM,uh (by omega),zM]
 by_cases h0:k=0
 ·subst h0
  have:=zH6 (v:=v) (k:=0) (by omega) 0 0 (by omega) (by omega) (by omega);rw[show vS (J1 0 (0:Int)) 0 (([v]:List Int).take ((J1 0 (0:Int)).length-0))=J1 0 v++J1 (0-0) 0 from rfl,show((min ([v]:List Int).length ((J1 0 (0:Int)).length-0):Nat):Int)=((0:Nat):Int)from rfl,this,bs]
 ·have:=zH6 (v:=v) (k:=k) (by omega) k 1 (by omega) (by omega) (by omega)
  have e1:vS (J1 k (0:Int)) 0 (([v]:List Int).take ((J1 k (0:Int)).length-0))=J1 1 v++J1 (k-1) 0:=by
   unfold vS
   grind
  grind
theorem zN9{O:List Int}{N:Nat}(hO:O.length=N)(hN:N≤100):f_J O=ud ⟨O,gl N (fun _=>J1 N 0),gl N (unC N)⟩:=by
 have gW:∀i,i<N→zI (zNZ O) ([],((i+1:Nat):Int))=ud (unC N i):=fun i hi=>by
  have:=zR (body:=zNZ O) (r:=unC N i) (fun j=>(gl j fun j=>vL N (i+1+j),((i+1+j:Nat):Int))) (N-1-i) (fun j hj=>by
   unfold zNZ;simp only
   rw[hO,xH (by omega),zK,jK (by omega) (by omega),bs,yC (by grind),bs,zE (by omega) (by omega),bs,cs,qV (F:=fun j=>vL N (i+1+j))];rfl) (by
   unfold zNZ;simp only
   rw[hO,show i+1+(N-1-i)=N from by omega,tK,zM,unC])
  exact this
 have:=zR (body:=zOa O) (r:=(gl N (fun _=>J1 N 0),gl N (unC N))) (fun i=>(gl i (fun _=>J1 N (0:Int)),gl i (unC N),((i:Nat):Int))) N (fun i hi=>by
  unfold zOa;simp only
  rw[hO,xH hi,zK,yN (by omega),bs,yC (by grind),bs,zE (by omega) (by omega),bs,cs,gW i hi,bs,yC (by rw[uP];simp;omega),bs,bs,qV (F:=unC N),qV (F:=fun _=>J1 N (0:Int))]) (by
  unfold zOa
  grind)
 unfold f_J;rw[zGn (by omega),bs]
 grind
section
variable {n D:Nat}{x:SPr}{m:zC}{T:Mx} (h:zGp n D x m T)
 include h
def exG(n N:Nat)(x:SPr)(m:zC)(T:Mx)(i t q:Nat):List Int:=if q<t then exF n x m T i q else vL N (i+1+q)
def exE(n D:Nat)(x:SPr)(m:zC)(T:Mx)(i t k:Nat):Mx:=if k<i then exC n D x m T k else if k=i then gl (n+D-1-i) (exG n (n+D) x m T i t)else unC (n+D) k
theorem zLm{i t:Nat}:exE n D x m T i t i=gl (n+D-1-i) (exG n (n+D) x m T i t):=by have _:=h;rw[exE,if_neg (by omega),if_pos rfl]
theorem zMM{i t:Nat}:(gl (n+D) (exE n D x m T i t)).set i ((gl (n+D-1-i) (exG n (n+D) x m T i t)).set t (exF n x m T i t))=gl (n+D) (exE n D x m T i (t+1)):=by
 have _:=h;rw[zLk,zLk];refine kV fun k _=>?_
 by_cases hk:k=i
 ·subst hk
  rw[if_pos rfl,zLm h];refine kV fun q _=>?_
  simp only[exG]
  grind
 ·rw[if_neg hk,exE,exE,if_neg hk,if_neg hk]
theorem zGq{i k:Nat}:exE n D x m T i 0 k=if k<i then exC n D x m T k else unC (n+D) k:=by
 have _:=h;rw[exE]
 by_cases h1:k<i
 ·grind
 ·rw[if_neg h1,if_neg h1]
  by_cases h2:k=i
  ·subst h2
   rw[if_pos rfl];rfl
  grind
theorem zPE{i:Nat}(hi:i<n):gl (n+D) (exE n D x m T i (n+D-1-i))=gl (n+D) (exE n D x m T (i+1) 0):=by
 refine kV fun k _=>?_
 rw[zGq h,exE]
 by_cases h1:k<i
 ·grind
 ·rw[if_neg h1]
  by_cases h2:k=i
  ·subst h2
   rw[if_pos rfl,if_pos (by omega),exC,if_pos hi];exact kV fun q hq=>by rw[exG,if_pos hq]
  grind
theorem zWB{i:Nat}(hi:i<n){C:List Mx}{w:Int}:zI (zLL T (C,w,(i:Int)) (x.zD.getD i [])) (gl (n+D) (exE n D x m T i 0),((base n i:Nat):Int),0)=ud (gl (n+D) (exE n D x m T i (n-1-i)),((base n (i+1):Nat):Int)):=by
 have h6:=h.hn;have h3:=h.m.d3;have hc:=h.cl i hi;have hb:=zDC n (by omega) i hi;have fL:=tX n (by omega);have:=zR (body:=zLL T (C,w,(i:Int)) (x.zD.getD i [])) (r:=(gl (n+D) (exE n D x m T i (n-1-i)),((base n (i+1):Nat):Int))) (fun j=>(gl (n+D) (exE n D x m T i j),((base n i+j:Nat):Int),((j:Nat):Int))) (n-1-i) (fun j hj=>by
  have a1:=h.ce i j;have a2:=h.tl (base n i+j);have e:exF n x m T i j=(x.zD.getD i []).getD j []++T.getD (base n i+j) []:=if_pos hj;unfold zLL;simp only
  rw[hc,xH hj,zK,zY [] (by omega),bs,zKa (by omega),bs,zY [] (by rw[h.t];omega),bs,zIv (by omega) (by omega),bs,zLm h,zKa (by omega),bs,zE (by omega) (by omega),bs,zE (by omega) (by omega),bs,cs,cs,←e,Jd,Jd,zMM h];rfl) (by
  unfold zLL;simp only
  rw[hc,tK,zM,zN8 n (by omega) i hi])
 exact this
theorem zWC{i:Nat}(hi:i<n){C:List Mx}{w:Int}:zI (zLM x (C,w,(i:Int)) (m.zJ.getD i [])) (gl (n+D) (exE n D x m T i (n-1-i)),0)=ud (gl (n+D) (exE n D x m T (i+1) 0)):=by
 have h6:=h.hn;have h3:=h.m.d3;have pe:=h.m.mat i hi;have:=zR (body:=zLM x (C,w,(i:Int)) (m.zJ.getD i [])) (r:=gl (n+D) (exE n D x m T (i+1) 0)) (fun j=>(gl (n+D) (exE n D x m T i (n-1-i+j)),((j:Nat):Int))) D (fun j hj=>by
  have e:exF n x m T i (n-1-i+j)=J1 n 0++(m.zJ.getD i []).getD j []:=by rw[exF,if_neg (by omega),show n-1-i+j-(n-1-i)=j from by omega]
  have hr:=(pe.2 j hj).1;unfold zLM;simp only
  rw[pe.1,xH hj,zK,zY [] (by grind),bs,zKa (by omega),bs,h.o,zE (by omega) (by omega),bs,zE (by omega) (by omega),bs,zE (by omega) (by omega),bs,show(0:Int)=((0:Nat):Int)from rfl,zJS (by omega) (by omega) (by omega),bs,
   show(n:Int)-1-(i:Int)+(j:Int)=((n-1-i+j:Nat):Int)from by omega,zLm h,zKa (by omega),bs,zE (by omega) (by omega),bs,cs,Lf,Jf,←e,Jd,Jd,zMM h];rfl) (by
  unfold zLM;simp only
  rw[pe.1,tK,zM,show n-1-i+D=n+D-1-i from by omega,zPE h hi])
 exact this
theorem zWD:zI (zLN x m T) (gl (n+D) (unC (n+D)),((n:Nat):Int),0)=ud (gl (n+D) (exC n D x m T)):=by
 have h6:=h.hn;have h3:=h.m.d3;have fL:=tX n (by omega);have:=zR (body:=zLN x m T) (r:=gl (n+D) (exC n D x m T)) (fun i=>(gl (n+D) (exE n D x m T i 0),((base n i:Nat):Int),((i:Nat):Int))) n (fun i hi=>by
  unfold zLN;simp only
  rw[h.o,xH hi,zK,zY [] (by rw[h.c];exact hi),bs,zWB h hi,bs,zY [] (by rw[h.m.len];exact hi),bs,zWC h hi,bs,zE (by omega) (by omega),bs,cs]) (by
  unfold zLN;simp only
  rw[h.o,tK,zM]
  congr 2
  refine kV fun k _=>?_
  rw[zGq h,exC]
  grind)
 have e:gl (n+D) (exE n D x m T 0 0)=gl (n+D) (unC (n+D)):=kV fun k _=>by rw[zGq h,if_neg (by omega)]
 grind
theorem zWE:zI (zLK x T) (gl (n+D) (fun _=>J1 (n+D) 0),0,0)=ud (gl (n+D) (exP n D x T),((n:Nat):Int)):=by
 have h6:=h.hn;have h3:=h.m.d3;have fL:=tX n (by omega);have:=zR (body:=zLK x T) (r:=(gl (n+D) (exP n D x T),((n:Nat):Int))) (fun i=>(gl (n+D) (fun k=>if k<i then exP n D x T k else J1 (n+D) 0),((i:Nat):Int),((i:Nat):Int))) n (fun i hi=>by
  have a1:=h.pl i;have a2:=h.tl i;have e:exP n D x T i=x.zV.getD i []++T.getD i []:=if_pos hi;unfold zLK;simp only
  rw[h.p,xH hi,zK,zY [] (by rw[h.p];exact hi),bs,zY [] (by rw[h.t];omega),bs,zIv (by omega) (by omega),bs,zKa (by omega),bs,zE (by omega) (by omega),bs,bs,cs,←e,Jd,zLk]
  grind) (by
  unfold zLK;simp only
  rw[h.p,tK,zM]
  congr 3
  refine kV fun k _=>?_
  by_cases hk:k<n
  ·grind
  ·rw[if_neg hk,exP,if_neg hk])
 grind
theorem zSw{v:Int}:f_u [v] m.Dim=ud (J1 D v):=by rw[h.m.d];exact zLl (by have:=h.m.d3;omega)
theorem zKb:f_i x m T=ud (ext n D x m T):=by
 have h6:=h.hn;have h3:=h.m.d3;unfold f_i;rw[zGn (by rw[h.o];omega),bs,zSw h,bs,yC (by rw[h.o];simp;omega),bs,zN9 (N:=n+D) (by rw[J7,h.o];simp) (by omega),bs];simp only
 rw[zWE h,bs,zWD h,bs];rfl
end
end Go.Pl
