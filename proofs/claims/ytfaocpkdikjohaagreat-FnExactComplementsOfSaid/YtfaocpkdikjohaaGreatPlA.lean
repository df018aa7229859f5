/- The program's ComplementsOf returns what the reference's returns,for all arguments;no conditions. -/
import Derived.Test.YtfaocpkdikjohaaGreatAbB
import Derived.Test.YtfaocpkdikjohaaGreatWF
open List renaming replicate→J1,getD_eq_getElem?_getD→J2,getElem?_eq_getElem→J3,length_append→J6,getElem?_append_right→J8,append_nil→J9,getElem?_eq_some_iff→Ja,append_assoc→Jc,take_of_length_le→Je,mem_map→Jg,length_cons→Jh,map_cons→Jk,length_map→Jl,replicate_append_replicate→Jm,getElem?_eq_none→Jn,getElem?_append_left→Jo,nil_append→Jp,range→Jq,take_succ_eq_append_getElem→Jr,length_take→Jt,getElem?_map→Ju,mem_cons→Jv,eq_nil_of_length_eq_zero→Jw,take_zero→Jx,length_replicate→Jy,length_drop→K8,getElem_mem→K9,take_succ_cons→Kd,cons_append→Kh,getElem?_replicate→Ki,replicate_succ→Kj,take_length→Kl,getElem?_drop→Ko,set_cons_zero→Kq,mem_iff_getElem→Ks,range_succ→Kv,getElem?_append→Kz,flatMap_append→L8,length_range→L9,ext_getElem?→La,mem_range→Lb,mem_append→Lf,map_append→Lg,drop_replicate→Li,map_nil→Lr,flatMap_cons→Ls,drop_eq_getElem_cons→Lt,length_nil→Lu,singleton_append→Lx,flatten_cons→H4,getElem?_take→H5,getD_cons_zero→H9,set_append_right→Hf,replicate_zero→Hp,drop_zero→Hx,flatMap_nil→Ga,range_zero→Gj,mem_of_mem_take→Gl,foldl_nil→Gy,flatten_nil→U8,drop_of_length_le→Ub,mem_flatMap→Uf,getD_cons_succ→Uh,flatten_append→Ui,getElem?_cons_succ→Uw,suffix_cons→Q3,map_congr_left→Q7,range'→Qc,eq_of_mem_replicate→Qg,getElem?_cons_zero→Ql,getElem?_set_ne→Qx,suffix_cons_iff→Jab,replicate_succ'→Jac,findSome?_cons→Jaj,range_succ_eq_map→Jal,take_append_drop→Jas,foldl_append→Jat,map_map→Jb0,all_cons→Jb2,suffix_nil→Jb5,cons→Jb7,getElem?_set→Jba,range'_succ→Jbu,drop_append→Jbv,drop_length→Jcu,length→Jcw
open Bool renaming and_eq_true→J4,not_true→Jj,not_false→Js
open Int renaming toNat_natCast→J7,mul_emod→Jz,emod_eq_of_lt→K6,emod_emod→Kb,add_emod→Km,zero_add→Ku,emod_lt_of_pos→Kx,add_mul_emod_self_left→Ky,tmod_eq_emod_of_nonneg→Lj,emod_nonneg→Lm,mul_le_mul→H2,mul_assoc→H8,mul_one→Hc,toNat_zero→Hg,mul_comm→Hq,mul_zero→G4,zero_mul→G8,mul_le_mul_of_nonneg_left→G9,mul_nonneg→U0,add_zero→U7,add_emod_right→U9,one_mul→Q9,sub_mul→Qn,add_mul→Qo,tmod_add_mul_tdiv→Jah,tmod_lt_of_pos→Jau,lt_tmod_of_pos→Jav,tmod→Jbb,emod_add_emod→Jcb
open Nat renaming zero_add→Jd,lt_or_ge→Jf,le_refl→Ji,zero_le→K4,sub_self→Kk,le_trans→Kt,min_eq_left→Lp,add_assoc→Lv,sub_zero→Hb,add_zero→G7,lt_trichotomy→U6,mul_one→Uv,add_mul→Ux,mul_add→Jai,div_add_mod→Jar,zero_sub→Jc6,le_of_lt→Jc8,add_comm→Jc9
open Option renaming map_eq_some_iff→Le,some→Lw,map_some→Hs,getD_some→Q2
namespace Go.Pc
abbrev Vec:=List Int
structure Lvl where
 o:Int
 w:Vec
 cs:List Vec
abbrev Pcp:=List Lvl
def zeros(n:Nat):Vec:=J1 n 0
def iter{α:Type}:Nat→(α→α)→α→α
 |0,_,x=>x
 |n+1,f,x=>iter n f (f x)
theorem vK{α:Type}(f:α→α):∀(n:Nat)(x:α),iter (n+1) f x=f (iter n f x)
 |0,_=>rfl
 |n+1,x=>by rw[iter,vK f n (f x)];rfl
theorem zDK{α:Type}(f:α→α)(a:Nat):∀(b:Nat)(x:α),iter (a+b) f x=iter a f (iter b f x)
 |0,_=>rfl
 |b+1,x=>by show iter (a+b) f (f x)=_;rw[zDK f a b (f x)];rfl
def img{α:Type}(m:α→α→α):List α→Vec→α→α
 |c::cs,x::xs,acc=>img m cs xs (iter x.toNat (fun v=>m v c) acc)
 |_,_,acc=>acc
def V:Pcp→Vec→Prop
 | [],v=>v=[]
 |l::P,v=>match v with
  | []=>False
  |a::x=>(0≤a∧a<l.o)∧V P x
def mul:Pcp→Vec→Vec→Vec
 |l::P,a::x,b::y=>
  let r:=mul P (iter b.toNat (fun v=>img (mul P) l.cs v (zeros P.length)) x) y
  if a+b≥l.o then(a+b-l.o)::mul P l.w r else(a+b)::r
 |_,_,_=>[]
def Ok:Pcp→Prop
 | []=>True
 |l::P=>1<l.o∧V P l.w∧l.cs.length=P.length∧(∀c∈l.cs,V P c)∧Ok P
structure Mon {α:Type} (S:α→Prop) (m:α→α→α) (e:α):Prop where
 cl:∀{a b},S a→S b→S (m a b)
 ein:S e
 assoc:∀{a b c},S a→S b→S c→m (m a b) c=m a (m b c)
 onel:∀{a},S a→m e a=a
 oner:∀{a},S a→m a e=a
structure Grp {α:Type} (S:α→Prop) (m:α→α→α) (e:α):Prop extends Mon S m e where
 inv:∀{a},S a→ ∃b,S b∧m a b=e
theorem Grp.invl{α:Type}{S:α→Prop}{m:α→α→α}{e:α}(h:Grp S m e){a:α}(ha:S a):∃b,S b∧m a b=e∧m b a=e:=by
 obtain⟨b,hb,h1⟩:=h.inv ha;obtain⟨c,hc,h2⟩:=h.inv hb;refine⟨b,hb,h1,?_⟩;have:a=c:=by rw[←h.oner ha,←h2,←h.assoc ha hb hc,h1,h.onel hc]
 rw[this];exact h2
theorem Grp.cancel_l{α:Type}{S:α→Prop}{m:α→α→α}{e:α}(h:Grp S m e){a b c:α}(ha:S a)(hb:S b)(hc:S c)(hh:m a b=m a c):b=c:=by obtain⟨d,hd,_,h2⟩:=h.invl ha;rw[←h.onel hb,←h.onel hc,←h2,h.assoc hd ha hb,h.assoc hd ha hc,hh]
section
variable {α:Type}{S:α→Prop}{m:α→α→α}{e:α}
def pw(m:α→α→α)(e:α)(x:α)(k:Nat):α:=iter k (fun v=>m v x) e
theorem uR(h:Mon S m e){x:α}(hx:S x):∀k,S (pw m e x k)
 |0=>h.ein
 |k+1=>by rw[pw,vK];exact h.cl (uR h hx k) hx
theorem vD{f:α→α}(hf:∀a,S a→S (f a)):∀(k:Nat){x:α},S x→S (iter k f x)
 |0,_,hx=>hx
 |k+1,_,hx=>vD hf k (hf _ hx)
theorem zDL(h:Mon S m e){x a:α}(hx:S x)(ha:S a):∀k,iter k (fun v=>m v x) a=m a (pw m e x k)
 |0=>(h.oner ha).symm
 |k+1=>by rw[vK,zDL h hx ha k];show _=m a (iter (k+1) (fun v=>m v x) e);rw[vK];exact h.assoc ha (uR h hx k) hx
theorem zGx(h:Mon S m e){x:α}(hx:S x)(a b:Nat):pw m e x (a+b)=m (pw m e x a) (pw m e x b):=by rw[Jc9,pw,zDK,←zDL h hx (uR h hx a) b];rfl
theorem zQ8(h:Mon S m e){x:α}(hx:S x):pw m e x 1=x:=h.onel hx
theorem zQ9(h:Mon S m e){x:α}(hx:S x)(k:Nat):pw m e x (k+1)=m x (pw m e x k):=by rw[Jc9,zGx h hx 1 k,zQ8 h hx]
theorem qA(h:∀{a b},S a→S b→S (m a b)):∀(cs:List α)(x:Vec){a:α},(∀c∈cs,S c)→S a→S (img m cs x a)
 |c::cs,x::xs,_,hc,ha=>by simp only[img];exact qA h cs xs (fun c h=>hc c (by simp[h])) (vD (fun a ha=>h ha (hc c (by simp))) _ ha)
 | [],_,_,_,ha=>by simpa[img]using ha
 |_::_,[],_,_,ha=>by simpa[img]using ha
theorem zE5(h:Mon S m e)(cs:List α)(x:Vec){a:α}(hc:∀c∈cs,S c)(ha:S a):S (img m cs x a):=qA h.cl cs x hc ha
theorem zDM(h:Mon S m e):∀(cs:List α)(x:Vec){a:α},(∀c∈cs,S c)→S a→img m cs x a=m a (img m cs x e)
 |c::cs,x::xs,a,hc,ha=>by
  have h1:S c:=hc c (by simp);have h2:∀c∈cs,S c:=fun c h=>hc c (by simp[h])
  simp only[img];rw[zDL h h1 ha,zDM h cs xs h2 (h.cl ha (uR h h1 _)),zDL h h1 h.ein,zDM h cs xs h2 (h.cl h.ein (uR h h1 _)),h.onel (uR h h1 _),
   h.assoc ha (uR h h1 _) (zE5 h cs xs h2 h.ein)]
 | [],_,a,_,ha=>by simp[img,h.oner ha]
 |_::_,[],a,_,ha=>by simp[img,h.oner ha]
theorem sE(h:Mon S m e){c:α}{cs:List α}{x:Int}{xs:Vec}(hc:S c)(hcs:∀c∈cs,S c):img m (c::cs) (x::xs) e=m (pw m e c x.toNat) (img m cs xs e):=by simp only[img];rw[zDM h cs xs hcs (vD (fun a ha=>h.cl ha hc) _ h.ein)];rfl
theorem zAN(m:α→α→α):∀(cs:List α)(n:Nat)(a:α),img m cs (zeros n) a=a
 | [],_,_=>by simp[img]
 |_::_,0,_=>by simp[zeros,img]
 |c::cs,n+1,a=>by simp only[zeros,Kj,img,Hg,iter];exact zAN m cs n a
theorem zGy(h:Mon S m e){g:α}(hg:S g):∀(cs ds:List α)(x:Vec),(∀c∈cs,S c)→(∀c∈ds,S c)→cs.length=ds.length→(∀(k:Nat) c d,cs[k]? =some c→ds[k]? =some d→m c g=m g d)→m (img m cs x e) g=m g (img m ds x e)
 | [],[],x,_,_,_,_=>by simp[img,h.onel hg,h.oner hg]
 |c::cs,d::ds,[],_,_,_,_=>by simp[img,h.onel hg,h.oner hg]
 |c::cs,d::ds,x::xs,hc,hd,hl,hp=>by
  have hc0:S c:=hc c (by simp);have hd0:S d:=hd d (by simp);have hcs:∀c∈cs,S c:=fun c h=>hc c (by simp[h])
  have hds:∀c∈ds,S c:=fun c h=>hd c (by simp[h])
  have key:∀k,m (pw m e c k) g=m g (pw m e d k):=by
   intro k
   induction k with
   |zero=>simp[pw,iter,h.onel hg,h.oner hg]
   |succ k ih=>
    have h0:m c g=m g d:=hp 0 c d rfl rfl;rw[pw,vK,pw,vK];show m (m (pw m e c k) c) g=m g (m (pw m e d k) d);rw[h.assoc (uR h hc0 k) hc0 hg,h0,←h.assoc (uR h hc0 k) hg hd0,ih,h.assoc hg (uR h hd0 k) hd0]
  rw[sE h hc0 hcs,sE h hd0 hds,h.assoc (uR h hc0 _) (zE5 h _ _ hcs h.ein) hg,zGy h hg cs ds xs hcs hds (by simpa using hl) (fun k c d h1 h2=>hp (k+1) c d (by simpa using h1) (by simpa using h2)),
   ←h.assoc (uR h hc0 _) hg (zE5 h _ _ hds h.ein),key,h.assoc hg (uR h hd0 _) (zE5 h _ _ hds h.ein)]
theorem zN7{β:Type}{T:β→Prop}{n:β→β→β}{f:β}(h:Mon S m e)(h':Mon T n f)(φ:α→β)(hin:∀a,S a→T (φ a))(h1:φ e=f)(hm:∀a b,S a→S b→φ (m a b)=n (φ a) (φ b)):∀(cs:List α)(x:Vec),(∀c∈cs,S c)→φ (img m cs x e)=img n (cs.map φ) x f
 | [],_,_=>by simp[img,h1]
 |c::cs,[],_=>by simp[img,h1]
 |c::cs,x::xs,hc=>by
  have hc0:S c:=hc c (by simp);have hcs:∀c∈cs,S c:=fun c h=>hc c (by simp[h])
  have key:∀k,φ (pw m e c k)=pw n f (φ c) k:=by
   intro k
   induction k with
   |zero=>simp[pw,iter,h1]
   |succ k ih=>
    rw[pw,vK,pw,vK];show φ (m (pw m e c k) c)=n (pw n f (φ c) k) (φ c);rw[hm _ _ (uR h hc0 k) hc0,ih]
  rw[sE h hc0 hcs,Jk,sE h' (hin c hc0) (by simp only[Jg];rintro _ ⟨c,hc',rfl⟩;exact hin c (hcs c hc')),hm _ _ (uR h hc0 _) (zE5 h _ _ hcs h.ein),key,zN7 h h' φ hin h1 hm cs xs hcs]
end
theorem wK:∀{P:Pcp},Ok P→V P (zeros P.length)
 | [],_=>rfl
 |l::P,h=>by simp only[Ok]at h;simp only[Jh,zeros,Kj,V];exact⟨by omega,wK h.2.2.2.2⟩
theorem xP:∀{P:Pcp},Ok P→ ∀{x y:Vec},V P x→V P y→V P (mul P x y)
 | [],_,_,_,hx,hy=>by simp[mul,V]
 |l::P,h,[],_,hx,_=>by simp[V]at hx
 |l::P,h,_::_,[],_,hy=>by simp[V]at hy
 |l::P,h,a::x,b::y,hx,hy=>by
  simp only[Ok]at h;simp only[V]at hx hy;have h1:∀v,V P v→V P (img (mul P) l.cs v (zeros P.length)):=fun v hv=>qA (xP h.2.2.2.2) l.cs v h.2.2.2.1 (wK h.2.2.2.2)
  have h2:=xP h.2.2.2.2 (vD h1 b.toNat hx.2) hy.2;simp only[mul];split
  ·exact⟨by omega,xP h.2.2.2.2 h.2.1 h2⟩
  ·exact⟨by omega,h2⟩
def Rel{α:Type}(m:α→α→α)(e:α):Pcp→List α→Prop
 | [],s=>s=[]
 |l::P,s=>match s with
  | []=>False
  |g::s=>pw m e g l.o.toNat=img m s l.w e∧(∀(k:Nat) c d,s[k]? =some c→l.cs[k]? =some d→m c g=m g (img m s d e))∧Rel m e P s
section
variable {α:Type}{S:α→Prop}{m:α→α→α}{e:α}
theorem zYd(h:Mon S m e):∀(P:Pcp)(s:List α),Ok P→(∀g∈s,S g)→Rel m e P s→ ∀x y,V P x→V P y→img m s (mul P x y) e=m (img m s x e) (img m s y e)
 | [],s,_,_,hr,x,y,hx,hy=>by simp only[Rel]at hr;subst hr;simp[img,h.onel h.ein]
 |l::P,[],_,_,hr,_,_,_,_=>by simp[Rel]at hr
 |l::P,g::s,_,_,_,[],_,hx,_=>by simp[V]at hx
 |l::P,g::s,_,_,_,_::_,[],_,hy=>by simp[V]at hy
 |l::P,g::s,hk,hs,hr,a::x,b::y,hx,hy=>by
  simp only[Ok]at hk;simp only[Rel]at hr;simp only[V]at hx hy;obtain⟨ho,hw,hcl,hcs,hkP⟩:=hk;obtain⟨hr1,hr2,hr3⟩:=hr;have hg:S g:=hs g (by simp);have hss:∀c∈s,S c:=fun c hc=>hs c (by simp[hc])
  have hlen:s.length=P.length:=by
   clear hr1 hr2 hx hy hw hcl hcs hs hss
   induction P generalizing s with
   |nil=>simp only[Rel]at hr3;simp[hr3]
   |cons l P ih=>
    cases s with
    |nil=>simp[Rel]at hr3
    |cons c s=>simp only[Rel]at hr3;simp only[Ok]at hkP;simp[ih s hkP.2.2.2.2 hr3.2.2]
  have ih:=zYd h P s hkP hss hr3;have hφ:∀v,S (img m s v e):=fun v=>zE5 h s v hss h.ein
  have hmP:∀{a b},V P a→V P b→V P (mul P a b):=xP hkP;have hσin:∀v,V P v→V P (img (mul P) l.cs v (zeros P.length)):=fun v hv=>qA hmP l.cs v hcs (wK hkP)
  have hσ:∀v,V P v→m (img m s v e) g=m g (img m s (img (mul P) l.cs v (zeros P.length)) e):=by
   intro v hv;have key:∀(cs:List Vec)(v:Vec)(acc:Vec),(∀c∈cs,V P c)→V P acc→img m s (img (mul P) cs v acc) e=img m (cs.map fun c=>img m s c e) v (img m s acc e):=by
    intro cs
    induction cs with
    |nil=>intro v acc _ _;simp[img]
    |cons c cs ihc=>
     intro v acc hc hacc;cases v with
     |nil=>simp[img]
     |cons z v=>
      have hc0:V P c:=hc c (by simp);have it:∀k acc,V P acc→img m s (iter k (fun v=>mul P v c) acc) e=iter k (fun v=>m v (img m s c e)) (img m s acc e):=by
       intro k
       induction k with
       |zero=>intro acc _;rfl
       |succ k ihk=>
        intro acc hacc;simp only[iter];rw[ihk _ (hmP hacc hc0),ih _ _ hacc hc0]
      simp only[img,Jk];rw[ihc v _ (fun c h=>hc c (by simp[h])) (vD (fun a ha=>hmP ha hc0) _ hacc),it _ _ hacc]
   rw[key l.cs v (zeros P.length) hcs (wK hkP),zAN];refine zGy h hg s _ v hss (by simp only[Jg];rintro _ ⟨c,_,rfl⟩;exact hφ c) (by simp[hlen,hcl]) ?_;intro k c d hc hd;simp only[Ju,Le]at hd;obtain⟨d',hd',rfl⟩:=hd;exact hr2 k c d' hc hd'
  have hσk:∀k v,V P v→m (img m s v e) (pw m e g k)=m (pw m e g k) (img m s (iter k (fun v=>img (mul P) l.cs v (zeros P.length)) v) e):=by
   intro k
   induction k with
   |zero=>intro v _;simp[pw,iter,h.onel (hφ v),h.oner (hφ v)]
   |succ k ihk=>
    intro v hv;rw[zQ9 h hg,←h.assoc (hφ v) hg (uR h hg k),hσ v hv,h.assoc hg (hφ _) (uR h hg k),ihk _ (hσin v hv),←h.assoc hg (uR h hg k) (hφ _)];rfl
  have hpa:=uR h hg a.toNat;have hpb:=uR h hg b.toNat;have hit:V P (iter b.toNat (fun v=>img (mul P) l.cs v (zeros P.length)) x):=vD hσin _ hx.2;have hmain:m (img m (g::s) (a::x) e) (img m (g::s) (b::y) e)=m (pw m e g (a.toNat+b.toNat)) (img m s (mul P (iter b.toNat (fun v=>img (mul P) l.cs v (zeros P.length)) x) y) e):=by rw[sE h hg hss,sE h hg hss,h.assoc hpa (hφ x) (h.cl hpb (hφ y)),←h.assoc (hφ x) hpb (hφ y),hσk _ _ hx.2,h.assoc hpb (hφ _) (hφ y),←ih _ _ hit hy.2,←h.assoc hpa hpb (hφ _),zGx h hg]
  rw[hmain];simp only[mul];split
  ·rename_i hge
   rw[sE h hg hss,ih _ _ hw (hmP hit hy.2),←hr1,←h.assoc (uR h hg _) (uR h hg _) (hφ _),←zGx h hg]
   congr 2
   omega
  ·rw[sE h hg hss]
   congr 2
   omega
end
def wL(n j:Nat):Vec:=(zeros n).set j 1
def sig(P:Pcp)(l:Lvl)(v:Vec):Vec:=img (mul P) l.cs v (zeros P.length)
def vB:Pcp→Prop
 | []=>True
 |l::P=>vB P∧Rel (mul P) (zeros P.length) P l.cs∧sig P l l.w=l.w∧ ∀j,j<P.length→mul P l.w (iter l.o.toNat (sig P l) (wL P.length j))=mul P (wL P.length j) l.w
theorem zHN(n:Nat):wL (n+1) 0=1::zeros n:=rfl
theorem zOy(n j:Nat):wL (n+1) (j+1)=0::wL n j:=rfl
def xS(n:Nat):List Vec:=(Jq n).map (wL n)
theorem zLF(n:Nat):xS (n+1)=(1::zeros n)::(xS n).map (0::·):=by
 simp only[xS,Jal,Jk,Jb0,zHN]
 congr 1
theorem zDn:∀{P:Pcp},Ok P→ ∀{j:Nat},j<P.length→V P (wL P.length j)
 | [],_,_,hj=>by simp at hj
 |l::P,h,0,_=>by simp only[Ok]at h;rw[Jh,zHN];simp only[V];exact⟨by omega,wK h.2.2.2.2⟩
 |l::P,h,j+1,hj=>by simp only[Ok]at h;rw[Jh,zOy];simp only[V];exact⟨by omega,zDn h.2.2.2.2 (by simpa using hj)⟩
theorem zDo{l:Lvl}{P:Pcp}(h:Ok (l::P)){v:Vec}(_hv:V P v):V P (sig P l v):=by simp only[Ok]at h;exact qA (xP h.2.2.2.2) l.cs v h.2.2.2.1 (wK h.2.2.2.2)
theorem yU(l:Lvl)(P:Pcp)(a b:Int)(x y:Vec):mul (l::P) (a::x) (b::y)=if a+b≥l.o then(a+b-l.o)::mul P l.w (mul P (iter b.toNat (sig P l) x) y)else(a+b)::mul P (iter b.toNat (sig P l) x) y:=rfl
theorem zOz{n k:Nat}{c:Vec}(h:(xS n)[k]? =some c):k<n∧c=wL n k:=by simp only[xS,Ju,Le]at h;obtain⟨j,hj,rfl⟩:=h;obtain⟨hk,rfl⟩:=Ja.1 hj;simp at hk;exact⟨hk,by simp⟩
theorem normal:∀(P:Pcp),Ok P→(∀Q,Q<:+P→Mon (V Q) (mul Q) (zeros Q.length))→ ∀x,V P x→img (mul P) (xS P.length) x (zeros P.length)=x
 | [],_,_,x,hx=>by simp only[V]at hx;subst hx;simp[xS,img,zeros]
 |l::P,_,_,[],hx=>by simp[V]at hx
 |l::P,h,hM,a::x,hx=>by
  have hMl:=hM (l::P) (List.suffix_refl _);have hMP:=hM P (Q3 _ _);have h':=h;simp only[Ok]at h;simp only[V]at hx;rw[Jh,zLF];have hz:V P (zeros P.length):=wK h.2.2.2.2;have hu0:V (l::P) (1::zeros P.length):=by simp only[V];exact⟨by omega,hz⟩
  have hus:∀c∈(xS P.length).map (0::·),V (l::P) c:=by intro c hc;simp only[xS,Jb0,Jg,Lb]at hc;obtain⟨j,hj,rfl⟩:=hc;simp only[Function.comp,V];exact⟨by omega,zDn h.2.2.2.2 hj⟩
  have hzl:V (l::P) (zeros (P.length+1)):=wK (P:=l::P) h';rw[show zeros (P.length+1)=zeros (l::P).length from rfl];rw[sE hMl hu0 hus];have sz:∀k:Nat,iter k (sig P l) (zeros P.length)=zeros P.length:=by
   intro k
   induction k with
   |zero=>rfl
   |succ k ih=>simp only[iter];rw[show sig P l (zeros P.length)=zeros P.length from zAN _ _ _ _];exact ih
  have h1:∀k:Nat,(k:Int)<l.o→pw (mul (l::P)) (zeros (l::P).length) (1::zeros P.length) k=(k:Int)::zeros P.length:=by
   intro k
   induction k with
   |zero=>intro _;rfl
   |succ k ih=>
    intro hk;rw[pw,vK];show mul (l::P) (pw (mul (l::P)) (zeros (l::P).length) (1::zeros P.length) k) (1::zeros P.length)=_;rw[ih (by omega),yU,if_neg (by omega)];rw[sz,hMP.onel hz];rfl
  have h2:∀(cs:List Vec)(y acc:Vec),(∀c∈cs,V P c)→V P acc→img (mul (l::P)) (cs.map (0::·)) y (0::acc)=0::img (mul P) cs y acc:=by
   intro cs
   induction cs with
   |nil=>intro y acc _ _;simp[img]
   |cons c cs ih=>
    intro y acc hc hacc;cases y with
    |nil=>simp[img]
    |cons z y=>
     have hc0:V P c:=hc c (by simp);have it:∀(k:Nat)(acc:Vec),V P acc→iter k (fun v=>mul (l::P) v (0::c)) (0::acc)=0::iter k (fun v=>mul P v c) acc:=by
      intro k
      induction k with
      |zero=>intro _ _;rfl
      |succ k ihk=>
       intro acc hacc;simp only[iter];rw[yU,if_neg (by omega)];exact ihk _ (xP h.2.2.2.2 hacc hc0)
     simp only[Jk,img];rw[it _ _ hacc,ih _ _ (fun c h=>hc c (by simp[h])) (vD (fun a ha=>xP h.2.2.2.2 ha hc0) _ hacc)]
  have hun:∀c∈xS P.length,V P c:=by intro c hc;simp only[xS,Jg,Lb]at hc;obtain⟨j,hj,rfl⟩:=hc;exact zDn h.2.2.2.2 hj
  rw[h1 a.toNat (by omega),show zeros (l::P).length=0::zeros P.length from rfl,h2 _ _ _ hun hz,normal P h.2.2.2.2 (fun Q hQ=>hM Q (hQ.trans (Q3 _ _))) x hx.2,yU,if_neg (by omega)];simp only[Hg,iter];rw[hMP.onel hx.2]
  congr 1
  omega
theorem zN8:∀(P:Pcp),Ok P→vB P→Grp (V P) (mul P) (zeros P.length)
 | [],_,_=>by
  refine⟨⟨fun _ _=>rfl,rfl,fun _ _ _=>rfl,?_,?_⟩,fun ha=>⟨[],rfl,rfl⟩⟩<;>
  ·intro a ha
   simp only[V]at ha;subst ha;rfl
 |l::P,h,hc=>by
  have h':=h;simp only[Ok]at h;simp only[vB]at hc;obtain⟨ho,hw,hcl,hcs,hP⟩:=h;obtain⟨hcP,hrel,hfix,hinn⟩:=hc;have N:=zN8 P hP hcP;have hM:∀Q,Q<:+P→Mon (V Q) (mul Q) (zeros Q.length):=by
   intro Q hQ;obtain⟨t,ht⟩:=hQ;have:Ok Q∧vB Q:=by
    clear N hw hcl hcs hrel hfix hinn h'
    induction t generalizing P with
    |nil=>simp at ht;subst ht;exact⟨hP,hcP⟩
    |cons a t ih=>
     simp at ht;subst ht;simp only[Ok]at hP;simp only[vB]at hcP;exact ih (t++Q) hP.2.2.2.2 hcP.1 rfl
   have hlt:SizeOf.sizeOf Q≤SizeOf.sizeOf P:=by
    rw[←ht]
    clear N hw hcl hcs hrel hfix hinn h' hP hcP ht this
    induction t with
    |nil=>simp
    |cons a t ih=>simp only[Kh,Jb7.sizeOf_spec];omega
   exact(zN8 Q this.1 this.2).toMon
  have hz:V P (zeros P.length):=wK hP;have σin:∀v,V P v→V P (sig P l v):=fun _ hv=>zDo h' hv
  have σhom:∀x y,V P x→V P y→sig P l (mul P x y)=mul P (sig P l x) (sig P l y):=fun x y hx hy=>zYd N.toMon P l.cs hP hcs hrel x y hx hy
  have σz:sig P l (zeros P.length)=zeros P.length:=zAN _ _ _ _;have itin:∀(k:Nat) v,V P v→V P (iter k (sig P l) v):=fun k v hv=>vD σin k hv
  have ithom:∀(k:Nat) x y,V P x→V P y→iter k (sig P l) (mul P x y)=mul P (iter k (sig P l) x) (iter k (sig P l) y):=by
   intro k
   induction k with
   |zero=>intro _ _ _ _;rfl
   |succ k ih=>intro x y hx hy;simp only[iter];rw[σhom x y hx hy,ih _ _ (σin x hx) (σin y hy)]
  have itz:∀k:Nat,iter k (sig P l) (zeros P.length)=zeros P.length:=by
   intro k
   induction k with
   |zero=>rfl
   |succ k ih=>simp only[iter];rw[σz];exact ih
  have itw:∀k:Nat,iter k (sig P l) l.w=l.w:=by
   intro k
   induction k with
   |zero=>rfl
   |succ k ih=>simp only[iter];rw[hfix];exact ih
  have hun:∀c∈xS P.length,V P c:=by intro c hc;simp only[xS,Jg,Lb]at hc;obtain⟨j,hj,rfl⟩:=hc;exact zDn hP hj
  have inner:∀x,V P x→mul P x l.w=mul P l.w (iter l.o.toNat (sig P l) x):=by intro x hx;have hnf:=normal P hP hM x hx;have hmap:=zN7 N.toMon N.toMon (iter l.o.toNat (sig P l)) (fun a ha=>itin _ a ha) (itz _) (fun a b ha hb=>ithom _ a b ha hb) (xS P.length) x hun;rw[←hnf,hmap];refine zGy N.toMon hw _ _ x hun (by simp only[Jg];rintro _ ⟨c,hc,rfl⟩;exact itin _ c (hun c hc)) (by simp) ?_;intro k c d hc hd;rw[Ju,Le]at hd;obtain⟨c',hc',rfl⟩:=hd;rw[hc]at hc';simp at hc';subst hc';obtain⟨hk,rfl⟩:=zOz hc;exact(hinn k hk).symm
  have e:∀(x y z:Vec)(b c:Int),V P x→V P y→V P z→0≤b→0≤c→
    mul P (iter c.toNat (sig P l) (mul P (iter b.toNat (sig P l) x) y)) z=mul P (iter (b+c).toNat (sig P l) x) (mul P (iter c.toNat (sig P l) y) z)∧
    mul P (iter c.toNat (sig P l) (mul P l.w (mul P (iter b.toNat (sig P l) x) y))) z=mul P l.w (mul P (iter (b+c).toNat (sig P l) x) (mul P (iter c.toNat (sig P l) y) z))∧
    (l.o≤b+c→mul P (iter (b+c-l.o).toNat (sig P l) x) (mul P l.w (mul P (iter c.toNat (sig P l) y) z))=mul P l.w (mul P (iter (b+c).toNat (sig P l) x) (mul P (iter c.toNat (sig P l) y) z))):=by
   intro x y z b c hx hy hz hb hcc;have hbx:=itin b.toNat x hx;have hcy:=itin c.toNat y hy;have hbc:iter c.toNat (sig P l) (iter b.toNat (sig P l) x)=iter (b+c).toNat (sig P l) x:=by rw[←zDK];congr 1;omega
   have hbcx:=itin (b+c).toNat x hx;have e1:mul P (iter c.toNat (sig P l) (mul P (iter b.toNat (sig P l) x) y)) z=mul P (iter (b+c).toNat (sig P l) x) (mul P (iter c.toNat (sig P l) y) z):=by rw[ithom _ _ _ hbx hy,hbc,N.assoc hbcx hcy hz]
   refine⟨e1,?_,?_⟩
   ·rw[ithom _ _ _ hw (N.cl hbx hy),itw,N.assoc hw (itin _ _ (N.cl hbx hy)) hz,e1]
   ·intro hge
    have hcyz:=N.cl hcy hz;rw[←N.assoc (itin _ x hx) hw hcyz,inner _ (itin _ x hx),←zDK,N.assoc hw (itin _ x hx) hcyz]
    congr 3
    omega
  refine⟨⟨fun ha hb=>xP h' ha hb,wK h',?_,?_,?_⟩,?_⟩
  ·intro A B C hA hB hC
   match A,B,C,hA,hB,hC with
   |a::x,b::y,c::z,hA,hB,hC=>
    simp only[V]at hA hB hC;obtain⟨e1,e2,e3⟩:=e x y z b c hA.2 hB.2 hC.2 hB.1.1 hC.1.1
    by_cases c1:a+b≥l.o<;>by_cases c2:b+c≥l.o
    ·rw[yU,if_pos c1,yU l P b c,if_pos c2,yU,yU,e2,e3 c2]
     by_cases c3:a+b-l.o+c≥l.o
     ·rw[if_pos c3,if_pos (by omega)];congr 1;omega
     ·rw[if_neg c3,if_neg (by omega)];congr 1;omega
    ·rw[yU,if_pos c1,yU l P b c,if_neg c2,yU,yU,e2,if_neg (by omega),if_pos (by omega)]
     congr 1;omega
    ·rw[yU,if_neg c1,yU l P b c,if_pos c2,yU,yU,e1,e3 c2,if_pos (by omega),if_neg (by omega)]
     congr 1;omega
    ·rw[yU,if_neg c1,yU l P b c,if_neg c2,yU,yU,e1]
     by_cases c3:a+b+c≥l.o
     ·rw[if_pos c3,if_pos (by omega)];congr 1;omega
     ·rw[if_neg c3,if_neg (by omega)];congr 1;omega
  ·intro A hA
   match A,hA with
   |a::x,hA=>
    simp only[V]at hA;show mul (l::P) (0::zeros P.length) (a::x)=_;rw[yU,if_neg (by omega),itz,N.onel hA.2,Ku]
  ·intro A hA
   match A,hA with
   |a::x,hA=>
    simp only[V]at hA;show mul (l::P) (a::x) (0::zeros P.length)=_;rw[yU,if_neg (by omega)];simp only[Hg,iter];rw[N.oner hA.2,U7]
  ·intro A hA
   match A,hA with
   |a::x,hA=>
    simp only[V]at hA
    by_cases ha:a=0
    ·obtain⟨y,hy,h1⟩:=N.inv hA.2
     refine⟨0::y,by simp only[V];exact⟨by omega,hy⟩,?_⟩;rw[yU,if_neg (by omega)];simp only[Hg,iter];rw[h1,ha];rfl
    ·have hx1:=itin (l.o-a).toNat x hA.2
     obtain⟨y,hy,h1⟩:=N.inv (N.cl hw hx1);refine⟨(l.o-a)::y,by simp only[V];exact⟨by omega,hy⟩,?_⟩;rw[yU,if_pos (by omega),←N.assoc hw hx1 hy,h1,show a+(l.o-a)-l.o=0 by omega];rfl
termination_by P=>P
end Go.Pc

namespace Go.Pl
open Go Go.Ab
theorem bs{α β:Type}(x:α)(f:α→Option β):(some x).bind f=f x:=by simp only[Option.bind_some]
theorem zH{α:Type}(x y:α):cond true x y=x:=by simp only[cond_true]
theorem zE{α:Type}(x y:α):cond false x y=y:=by simp only[cond_false]
theorem zD{n:Int}(h1:-9223372036854775808≤n)(h2:n≤9223372036854775807):rng n=some n:=by unfold rng;rw[if_pos];simp only[inR,J4,decide_eq_true_eq];omega
theorem wU{α:Type}(xs:List α)(i:Nat):ixO xs (i:Int)=xs[i]?:=by unfold ixO;rw[if_pos (by omega)];simp
theorem qB{α:Type}{xs:List α}{i:Nat}(h:i<xs.length):ixO xs (i:Int)=some xs[i]:=by rw[wU];exact J3 h
theorem yO{n:Nat}(h:n≤68719476736):yM (n:Int)=some n:=by unfold yM;rw[if_pos (by omega)];simp
theorem yF{α:Type}{xs ys:List α}(h:xs.length+ys.length≤68719476736):yZ xs ys=some (xs++ys):=by unfold yZ;rw[if_pos h]
theorem zN{σ ρ:Type}{body:σ→Option (σ⊕ρ)}{r:ρ}(S:Nat→σ)(n:Nat)(h:∀i,i<n→body (S i)=some (.inl (S (i+1))))(he:body (S n)=some (.inr r)):zF body (S 0)=some r:=by
 have key:∀k i,i+k=n→zF body (S i)=some r:=by
  intro k
  induction k with
  |zero=>intro i hi;rw[yL,show i=n from by omega,he]
  |succ k ih=>intro i hi;rw[yL,h i (by omega)];exact ih (i+1) (by omega)
 exact key n 0 (by omega)
theorem vT{σ ρ:Type}{body:σ→Option (σ⊕ρ)}{Q:ρ→Prop}(I:Nat→σ→Prop)(n:Nat)(h:∀i s,i<n→I i s→(∃s',body s=some (.inl s')∧I (i+1) s')∨ ∃r,body s=some (.inr r)∧Q r)
  (he:∀s,I n s→ ∃r,body s=some (.inr r)∧Q r){s:σ}(h0:I 0 s):∃r,zF body s=some r∧Q r:=by
 have key:∀k i s,i+k=n→I i s→ ∃r,zF body s=some r∧Q r:=by
  intro k
  induction k with
  |zero=>
   intro i s hi hs;obtain rfl:i=n:=by omega
   obtain⟨r,h1,h2⟩:=he s hs;exact⟨r,by rw[yL,h1],h2⟩
  |succ k ih=>
   intro i s hi hs;rcases h i s (by omega) hs with⟨s',h1,h2⟩|⟨r,h1,h2⟩
   ·rw[yL,h1];exact ih (i+1) s' (by omega) h2
   ·exact⟨r,by rw[yL,h1],h2⟩
 exact key n 0 s (by omega) h0
def zN9{ρ:Type}:Option ρ→Unit⊕ρ
 |none=>.inl ()
 |some r=>.inr r
theorem cs(i:Nat):(i:Int)+1=((i+1:Nat):Int):=by omega
theorem zO0{ρ:Type}{body:Int→Option (Int⊕(Unit⊕ρ))}(n:Nat)(t:Nat→Option ρ)(i0:Nat)(hn:i0≤n)
  (h:∀i,i0≤i→i<n→(∀j,i0≤j→j<i→t j=none)→body (i:Int)=some (match t i with|none=>.inl ((i+1:Nat):Int)|some r=>.inr (.inr r)))
  (he:(∀j,i0≤j→j<n→t j=none)→body (n:Int)=some (.inr (.inl ()))):
  zF body (i0:Int)=some (zN9 ((Qc i0 (n-i0)).findSome? t)):=by
 have key:∀k i,i0≤i→i+k=n→(∀j,i0≤j→j<i→t j=none)→zF body (i:Int)=some (zN9 ((Qc i k).findSome? t)):=by
  intro k
  induction k with
  |zero=>
   intro i hi hk hp;obtain rfl:i=n:=by omega
   rw[yL,he hp];rfl
  |succ k ih=>
   intro i hi hk hp;rw[yL,h i hi (by omega) hp,Jbu,Jaj];cases ht:t i with
   |some r=>rfl
   |none=>
    simp only
    exact ih (i+1) (by omega) (by omega) fun j h1 h2=>by
     rcases Jf j i with h3|h3
     ·exact hp j h1 h3
     ·rw[show j=i from by omega];exact ht
 exact key (n-i0) i0 (Ji _) (by omega) fun j h1 h2=>by omega
theorem zQA{n:Nat}{b:Nat→Bool}:zN9 ((Qc 0 n).findSome? (fun i=>if b i then none else some false))=if(Jq n).all b then .inl ()else .inr false:=by
 have key:∀l:List Nat,zN9 (l.findSome? (fun i=>if b i then none else some false))=if l.all b then .inl ()else .inr false:=by
  intro l
  induction l with
  |nil=>rfl
  |cons x l ih=>
   rw[Jaj,Jb2];cases hb:b x
   ·rfl
   ·simpa using ih
 rw[key,List.range_eq_range']
theorem zO1{body:Int→Option (Int⊕(Unit⊕Bool))}(n:Nat)(b:Nat→Bool)
  (h:∀i,i<n→(∀j,j<i→b j=true)→body (i:Int)=some (if b i then .inl ((i+1:Nat):Int)else .inr (.inr false)))
  (he:(∀j,j<n→b j=true)→body (n:Int)=some (.inr (.inl ()))):
  zF body 0=some (if(Jq n).all b then .inl ()else .inr false):=by
 have:=zO0 (body:=body) n (fun i=>if b i then none else some false) 0 (K4 _) (fun i _ hi hp=>by
  rw[h i hi fun j hj=>by
   have:=hp j (K4 _) hj;split at this
   ·assumption
   ·cases this]
  cases b i<;>rfl) (fun hp=>he fun j hj=>by
   have:=hp j (K4 _) hj;split at this
   ·assumption
   ·cases this)
 rw[Hb]at this;exact this.trans (congrArg some (zQA (n:=n) (b:=b)))
theorem zQB{α:Type}{xs:List α}{z:α}{i:Nat}(h:i<xs.length):(xs.take i++J1 (xs.length-i) z).set i xs[i]=xs.take (i+1)++J1 (xs.length-(i+1)) z:=by
 have h1:(xs.take i).length=i:=by rw[Jt];omega
 rw[Hf _ _ (by omega),h1,Kk,show xs.length-i=(xs.length-(i+1))+1 from by omega,Kj,Kq,Jr h];simp only[Jc,Lx]
theorem zIP{α:Type}{f:α→Option α}{body:List α×Int→Option ((List α×Int)⊕List α)}{x0:List α}{z:α}
  (hb:∀s,body s=cond (decide (s.2<(x0.length:Int))) ((ixO x0 s.2).bind fun v2=>(f v2).bind fun r3=>(ixO s.1 s.2).bind fun _=>(rng (s.2+1)).bind fun v5=>some (.inl (s.1.set s.2.toNat r3,v5))) (some (.inr s.1)))
  (hl:x0.length≤68719476736)(hf:∀x∈x0,f x=some x):zF body (J1 x0.length z,0)=some x0:=by
 have:=zN (body:=body) (r:=x0) (fun i=>(x0.take i++J1 (x0.length-i) z,(i:Int))) x0.length (fun i hi=>by
  rw[hb];simp only[decide_eq_true (show((i:Int))<(x0.length:Int)from by omega),zH];rw[qB hi,wU];simp only[bs,hf _ (K9 hi)];rw[J3 (by simp;omega),bs,zD (by omega) (by omega),bs];simp only[J7,zQB hi,cs]) (by
  rw[hb];simp only[decide_eq_false (show¬((x0.length:Int))<(x0.length:Int)from by omega),zE,Kl,Kk,Hp,J9])
 simpa using this
theorem zT5{α:Type}[BEq α]{t:α→α→Option Bool}{body:Int→Option (Int⊕(Unit⊕Bool))}{x y:List α}
  (hb:∀i,body i=cond (decide (i<(x.length:Int))) ((ixO x i).bind fun v1=>(ixO y i).bind fun v2=>(t v1 v2).bind fun r3=>cond (!r3) (some (.inr (.inr false))) ((rng (i+1)).bind fun v4=>some (.inl v4))) (some (.inr (.inl ()))))
  (hl:x.length≤68719476736)(hxy:x.length=y.length)(ht:∀u∈x,∀v∈y,t u v=some (u==v)):zF body 0=some (if x==y then .inl ()else .inr false):=by
 have h:=zO1 (body:=body) x.length (fun i=>match x[i]?,y[i]? with|some u,some v=>u==v|_,_=>true) (fun i hi _=>by
  have hi':i<y.length:=by omega
  rw[hb];simp only[decide_eq_true (show((i:Int))<(x.length:Int)from by omega),zH];rw[qB hi,qB hi'];simp only[bs,ht _ (K9 hi) _ (K9 hi'),J3 hi,J3 hi'];cases x[i]==y[i]
  ·rfl
  ·simp only[Jj,zE,if_true]
   rw[zD (by omega) (by omega),cs];rfl) (fun _=>by
  rw[hb];simp only[decide_eq_false (show¬((x.length:Int))<(x.length:Int)from by omega),zE])
 rw[h]
 congr 2
 have key:∀(x y:List α),x.length=y.length→((Jq x.length).all (fun i=>match x[i]?,y[i]? with|some u,some v=>u==v|_,_=>true))=(x==y):=by
  intro x
  induction x with
  |nil=>intro y hy;cases y with|nil=>rfl|cons _ _=>simp at hy
  |cons u x ih=>
   intro y hy;cases y with
   |nil=>simp at hy
   |cons v y=>
    rw[Jh,Jal,Jb2,List.all_map];simp only[Ql,Function.comp_def,Uw];rw[ih y (by simpa using hy)];rfl
 rw[key x y hxy]
theorem zHO{α:Type}[BEq α]{t:α→α→Option Bool}{f:Option Bool}{body:Int→Option (Int⊕(Unit⊕Bool))}{x y:List α}
  (hf:f=cond ((x.length:Int) != (y.length:Int)) (some false) ((zF body 0).bind fun r=>match r with|.inl _=>some true|.inr r=>some r))
  (hb:∀i,body i=cond (decide (i<(x.length:Int))) ((ixO x i).bind fun v1=>(ixO y i).bind fun v2=>(t v1 v2).bind fun r3=>cond (!r3) (some (.inr (.inr false))) ((rng (i+1)).bind fun v4=>some (.inl v4))) (some (.inr (.inl ()))))
  (hl:x.length≤68719476736)(ht:∀u∈x,∀v∈y,t u v=some (u==v)):f=some (x==y):=by
 rw[hf]
 by_cases hxy:x.length=y.length
 ·rw[zT5 hb hl hxy ht]
  have:((x.length:Int) != (y.length:Int))=false:=by simp[hxy]
  rw[this];cases x==y<;>rfl
 ·have:((x.length:Int) != (y.length:Int))=true:=by simp;omega
  rw[this];have h2:(x==y)=false:=by
   have key:∀(x y:List α),x.length≠y.length→(x==y)=false:=by
    intro x
    induction x with
    |nil=>intro y hy;cases y with|nil=>simp at hy|cons _ _=>rfl
    |cons u x ih=>
     intro y hy;cases y with
     |nil=>rfl
     |cons v y=>
      show(u==v&&x==y)=false;rw[ih y (by simpa using hy),Bool.and_false]
   exact key x y hxy
  rw[h2];rfl
end Go.Pl

namespace Go.Pl
open Go Go.Ab
def sm{α:Type}(c:α→Nat):List α→Nat
 | []=>0
 |x::xs=>c x+sm c xs
theorem zCz{α:Type}(c:α→Nat):∀xs ys:List α,sm c (xs++ys)=sm c xs+sm c ys
 | [],ys=>by simp[sm]
 |x::xs,ys=>by simp only[Kh,sm,zCz c xs ys];omega
theorem zF1{α:Type}(c:α→Nat){xs:List α}{i:Nat}(h:i<xs.length):sm c (xs.take (i+1))=sm c (xs.take i)+c xs[i]:=by rw[Jr h,zCz];simp[sm]
theorem zBm{α:Type}(c:α→Nat)(xs:List α)(i:Nat):sm c (xs.take i)≤sm c xs:=by have:=zCz c (xs.take i) (xs.drop i);rw[Jas]at this;omega
theorem zQC{α:Type}(c:α→Nat){xs:List α}{x:α}(h:x∈xs):c x≤sm c xs:=by obtain⟨i,hi,rfl⟩:=Ks.1 h;have:=zF1 c hi;have:=zBm c xs (i+1);omega
def szR(c:Nat)(b:Int):Int:=if(c:Int)≤b then b-c else -1
theorem zVf{α:Type}{c:α→Nat}{t:α→Int→Option Int}{f:Option Int}{body:Int×Int→Option ((Int×Int)⊕(Int⊕Int))}{xs:List α}{b:Int}
  (hf:f=(rng (b-(xs.length:Int))).bind fun v1=>cond (decide (v1<0)) (some (-1)) ((zF body (v1,0)).bind fun r=>match r with|.inl r=>some r|.inr r=>some r))
  (hb:∀s,body s=cond (decide (s.2<(xs.length:Int))) ((ixO xs s.2).bind fun v2=>(t v2 s.1).bind fun r3=>cond (decide (r3<0)) (some (.inr (.inr (-1)))) ((rng (s.2+1)).bind fun v4=>some (.inl (r3,v4)))) (some (.inr (.inl s.1))))
  (hl:xs.length≤9223372036854775807)(b0:0≤b)(b1:b≤1048576)(ht:∀x∈xs,∀b',0≤b'→b'≤1048576→t x b'=some (szR (c x) b')):f=some (szR (xs.length+sm c xs) b):=by
 rw[hf,zD (by omega) (by omega),bs]
 by_cases h0:b-(xs.length:Int)<0
 ·rw[decide_eq_true h0,zH,szR,if_neg (by omega)]
 ·rw[decide_eq_false h0,zE]
  obtain⟨r,h1,h2⟩:=vT (body:=body) (Q:=fun r=>(match r with|.inl r=>some r|.inr r=>some r)=some (szR (xs.length+sm c xs) b)) (fun i s=>s.2=(i:Int)∧0≤s.1∧s.1=b-xs.length-sm c (xs.take i)) xs.length (fun i s hi ⟨e1,e2,e3⟩=>by
   rw[hb,e1,decide_eq_true (by omega),zH,qB hi,bs,ht _ (K9 hi) _ e2 (by omega),bs];have h3:=zF1 c hi;have h4:=zBm c xs (i+1);unfold szR
   by_cases h5:(c xs[i]:Int)≤s.1
   ·rw[if_pos h5,decide_eq_false (by omega),zE,zD (by omega) (by omega),bs,cs]
    exact .inl ⟨_,rfl,rfl,by simp only;omega,by simp only;omega⟩
   ·rw[if_neg h5]
    refine .inr ⟨.inr (-1),rfl,?_⟩;simp only
    rw[if_neg (by omega)]) (fun s ⟨e1,e2,e3⟩=>by
   rw[hb,e1,decide_eq_false (by omega),zE];rw[Kl]at e3;refine⟨_,rfl,?_⟩;simp only
   rw[szR,if_pos (by omega),e3]
   congr 1;omega) (s:=(b-(xs.length:Int),0)) ⟨rfl,by simp only;omega,by simp[sm]⟩
  rw[h1,bs,h2]
def mkL{α:Type}(m:Int→α→α)(c:α→Nat):Int→List α→List α
 |_,[]=>[]
 |k,x::xs=>m k x::mkL m c (k+c x) xs
theorem zDp{α:Type}(m:Int→α→α)(c:α→Nat):∀(xs ys:List α)(k:Int),mkL m c k (xs++ys)=mkL m c k xs++mkL m c (k+sm c xs) ys
 | [],ys,k=>by simp[mkL,sm]
 |x::xs,ys,k=>by simp only[Kh,mkL,sm,zDp m c xs ys];rw[show k+(c x:Int)+(sm c xs:Int)=k+((c x+sm c xs:Nat):Int)from by omega]
theorem vW{α:Type}(m:Int→α→α)(c:α→Nat):∀(xs:List α)(k:Int),(mkL m c k xs).length=xs.length
 | [],_=>rfl
 |x::xs,k=>by simp[mkL,vW m c xs]
theorem zNA{α:Type}(m:Int→α→α)(c:α→Nat){xs:List α}{i:Nat}(h:i<xs.length)(k:Int):(mkL m c k xs)[i]'(by rw[vW];exact h)=m (k+sm c (xs.take i)) xs[i]:=by
 have h1:xs=xs.take i++xs[i]::xs.drop (i+1):=by simp
 have h2:=zDp m c (xs.take i) (xs[i]::xs.drop (i+1)) k;rw[←h1]at h2;rw[List.getElem_of_eq h2];rw[List.getElem_append_right (by rw[vW,Jt];omega)];simp[mkL,vW,Lp (Jc8 h)]
theorem zE6{α:Type}{m:Int→α→α}{c:α→Nat}{t:α→Int→Option (Int×α)}{body:List α×Int×Int→Option ((List α×Int×Int)⊕(List α×Int))}{xs:List α}{k:Int}
  (hb:∀s,body s=cond (decide (s.2.2<(s.1.length:Int))) ((ixO s.1 s.2.2).bind fun v1=>(t v1 s.2.1).bind fun r2=>(rng (s.2.2+1)).bind fun v3=>some (.inl (s.1.set s.2.2.toNat r2.2,r2.1,v3))) (some (.inr (s.1,s.2.1))))
  (hl:xs.length≤1048576)(k0:0≤k)(k1:k+sm c xs≤9223372036854775807)(ht:∀x∈xs,∀k':Int,0≤k'→k'+c x≤9223372036854775807→t x k'=some (k'+c x,m k' x)):zF body (xs,k,0)=some (mkL m c k xs,k+sm c xs):=by
 have:=zN (body:=body) (r:=(mkL m c k xs,k+sm c xs)) (fun i=>(mkL m c k (xs.take i)++xs.drop i,k+sm c (xs.take i),(i:Int))) xs.length (fun i hi=>by
  have h1:=zF1 c hi;have h2:=zBm c xs (i+1);have hlen:(mkL m c k (xs.take i)).length=i:=by rw[vW,Jt];omega
  have hg:(mkL m c k (xs.take i)++xs.drop i)[i]? =some xs[i]:=by rw[J8 (by omega),hlen,Kk,Ko,G7,J3 hi]
  rw[hb];simp only
  rw[decide_eq_true (by rw[J6,hlen,K8];omega),zH,wU,hg,bs,ht _ (K9 hi) _ (by omega) (by omega),bs,zD (by omega) (by omega),bs,cs];simp only[J7];rw[Hf _ _ (by omega),hlen,Kk,Lt hi,Kq,Jr hi,zDp,zCz,Jc];simp only[mkL,sm,Lx,G7];rw[show k+(sm c (xs.take i):Int)+(c xs[i]:Int)=k+((sm c (xs.take i)+c xs[i]:Nat):Int)from by omega]) (by
  rw[hb];simp only
  rw[decide_eq_false (by rw[J6,vW,Jt,K8];omega),zE];simp only[Kl,Jcu,J9])
 simpa[mkL,sm]using this
theorem zHP{α:Type}{m:Int→α→α}{c:α→Nat}{t:α→Int→Option Int}{f:Option Int}{xs:List α}{k:Int}{body:Int×Int→Option ((Int×Int)⊕(Int⊕Int))}
  (hf:f=(zF body (k,0)).bind fun r=>match r with|.inl r=>some r|.inr r=>some r)
  (hb:∀s,body s=cond (decide (s.2<((mkL m c k xs).length:Int))) ((ixO (mkL m c k xs) s.2).bind fun v1=>(t v1 s.1).bind fun r2=>cond (decide (r2<0)) (some (.inr (.inr (-1)))) ((rng (s.2+1)).bind fun v3=>some (.inl (r2,v3)))) (some (.inr (.inl s.1))))
  (hl:xs.length≤1048576)(k0:0≤k)(k1:k+sm c xs≤9223372036854775807)(ht:∀x∈xs,∀k':Int,0≤k'→k'+c x≤9223372036854775807→t (m k' x) k'=some (k'+c x)):f=some (k+sm c xs):=by
 have:=zN (body:=body) (r:=.inl (k+sm c xs)) (fun i=>(k+sm c (xs.take i),(i:Int))) xs.length (fun i hi=>by
  have h1:=zF1 c hi;have h2:=zBm c xs (i+1);rw[hb];simp only
  rw[vW,decide_eq_true (by omega),zH,qB (by rw[vW];exact hi),bs,zNA m c hi,ht _ (K9 hi) _ (by omega) (by omega),bs,decide_eq_false (by omega),zE,zD (by omega) (by omega),bs,cs,h1];rw[show k+(sm c (xs.take i):Int)+(c xs[i]:Int)=k+((sm c (xs.take i)+c xs[i]:Nat):Int)from by omega]) (by
  rw[hb];simp only
  rw[vW,decide_eq_false (by omega),zE,Kl])
 rw[hf];simp only[Jx,sm]at this;rw[show k+((0:Nat):Int)=k from by omega]at this;rw[show((0:Nat):Int)=0 from rfl]at this;rw[this];rfl
end Go.Pl

namespace Go.Pl
open Go Go.Ab Go.Wk
abbrev VI(n:Int):Prop:=(Lit.int .i64 n).wf=true
abbrev VL{α:Type}(V:α→Prop)(xs:List α):Prop:=xs.length≤maxLen∧ ∀x∈xs,V x
abbrev c1(x:List Int):Nat:=x.length
abbrev c2(x:List (List Int)):Nat:=x.length+sm c1 x
abbrev c3(x:List (List (List Int))):Nat:=x.length+sm c2 x
theorem zKc{x:List Int}{b:Int}(hl:x.length≤9223372036854775807)(b0:0≤b)(b1:b≤1048576):zR6 x b=some (szR (c1 x) b):=by
 unfold zR6 szR;rw[zD (by omega) (by omega),bs]
 by_cases h:(c1 x:Int)≤b
 ·rw[decide_eq_false (by simp only[c1]at h;omega),zE,if_pos h]
 ·rw[decide_eq_true (by simp only[c1]at h;omega),zH,if_neg h]
theorem zE7{x:List (List Int)}{b:Int}(h:VL (VL VI) x)(b0:0≤b)(b1:b≤1048576):zR7 x b=some (szR (c2 x) b):=
 zVf (c:=c1) rfl (fun _=>rfl) h.1 b0 b1 fun y hy _ h1 h2=>zKc (h.2 y hy).1 h1 h2
theorem zGz{x:List (List (List Int))}{b:Int}(h:VL (VL (VL VI)) x)(b0:0≤b)(b1:b≤1048576):zTV x b=some (szR (c3 x) b):=
 zVf (c:=c2) rfl (fun _=>rfl) h.1 b0 b1 fun y hy _ h1 h2=>zE7 (h.2 y hy) h1 h2
abbrev S1(x:List Int):Prop:=c1 x≤1048576
abbrev S2(x:List (List Int)):Prop:=c2 x≤1048576
abbrev S3(x:List (List (List Int))):Prop:=c3 x≤1048576
theorem S2.mem{x:List (List Int)}(h:S2 x){y:List Int}(hy:y∈x):S1 y:=by have:=zQC c1 hy;simp only[S2,S1,c2]at h ⊢;omega
theorem S3.mem{x:List (List (List Int))}(h:S3 x){y:List (List Int)}(hy:y∈x):S2 y:=by have:=zQC c2 hy;simp only[S3,S2,c3]at h ⊢;omega
theorem S1.len{x:List Int}(h:S1 x):x.length≤1048576:=h
theorem S2.len{x:List (List Int)}(h:S2 x):x.length≤1048576:=by simp only[S2,c2]at h;omega
theorem S3.len{x:List (List (List Int))}(h:S3 x):x.length≤1048576:=by simp only[S3,c3]at h;omega
theorem zKd{x:List Int}(h:S1 x):zOS x=some x:=by unfold zOS;rw[yO (Kt h (by decide)),bs,zIP (body:=zR8 x) (f:=some) (fun _=>rfl) (Kt h (by decide)) (fun _ _=>rfl),bs]
theorem zE8{x:List (List Int)}(h:S2 x):f_W x=some x:=by unfold f_W;rw[yO (Kt h.len (by decide)),bs,zIP (body:=zW1 x) (f:=zOS) (fun _=>rfl) (Kt h.len (by decide)) (fun _ hx=>zKd (h.mem hx)),bs]
theorem zG0{x:List (List (List Int))}(h:S3 x):zRA x=some x:=by unfold zRA;rw[yO (Kt h.len (by decide)),bs,zIP (body:=zR9 x) (f:=f_W) (fun _=>rfl) (Kt h.len (by decide)) (fun _ hx=>zE8 (h.mem hx)),bs]
theorem zKe{x y:List Int}(h:S1 x):zS5 x y=some (x==y):=
 zHO (t:=fun u v=>some (u==v)) (body:=zS4 x y) rfl (fun _=>rfl) (Kt h.len (by decide)) fun _ _ _ _=>rfl
theorem zE9{x y:List (List Int)}(h:S2 x):zOW x y=some (x==y):=
 zHO (t:=zS5) (body:=zS6 x y) rfl (fun _=>rfl) (Kt h.len (by decide)) fun _ hu _ _=>zKe (h.mem hu)
theorem zBn{x y:List (List (List Int))}(h:S3 x):zM8 x y=some (x==y):=
 zHO (t:=zOW) (body:=zS7 x y) rfl (fun _=>rfl) (Kt h.len (by decide)) fun _ hu _ _=>zE9 (h.mem hu)
def m1(k:Int)(x:List Int):List Int:=mkL (fun k _=>k) (fun _=>1) k x
def m2(k:Int)(x:List (List Int)):List (List Int):=mkL m1 c1 k x
def m3(k:Int)(x:List (List (List Int))):List (List (List Int)):=mkL m2 (sm c1) k x
theorem zLG{α:Type}:∀xs:List α,sm (fun _=>1) xs=xs.length
 | []=>rfl
 |x::xs=>by simp[sm,zLG xs];omega
theorem zG1{x:List Int}{k:Int}(h:S1 x)(k0:0≤k)(k1:k+c1 x≤9223372036854775807):zOX x k=some (k+c1 x,m1 k x):=by
 have h1:=zLG x;have:=zE6 (m:=fun k _=>k) (c:=fun _=>1) (t:=fun v k=>(rng (k+1)).bind fun v2=>some (v2,k)) (body:=zOg) (xs:=x) (k:=k) (fun s=>by
  unfold zOg
  congr 1
  cases ixO s.1 s.2.2 with
  |none=>rfl
  |some v=>
   simp only[bs];cases rng (s.2.1+1)<;>rfl) h.len k0 (by rw[h1];exact k1) fun v _ k' h1 h2=>by
  have h2':k'+((1:Nat):Int)≤9223372036854775807:=h2;rw[zD (by omega) (by omega),bs];rfl
 unfold zOX;rw[this,bs,h1];rfl
theorem zBT{x:List (List Int)}{k:Int}(h:S2 x)(k0:0≤k)(k1:k+sm c1 x≤9223372036854775807):zM9 x k=some (k+sm c1 x,m2 k x):=by unfold zM9;rw[zE6 (body:=zS8) (m:=m1) (c:=c1) (t:=zOX) (fun _=>rfl) h.len k0 k1 fun y hy _ h1 h2=>zG1 (h.mem hy) h1 h2,bs];rfl
theorem zBo{x:List (List (List Int))}{k:Int}(h:S3 x)(k0:0≤k)(k1:k+sm (sm c1) x≤9223372036854775807):zOY x k=some (k+sm (sm c1) x,m3 k x):=by unfold zOY;rw[zE6 (body:=zS9) (m:=m2) (c:=sm c1) (t:=zM9) (fun _=>rfl) h.len k0 k1 fun y hy _ h1 h2=>zBT (h.mem hy) h1 h2,bs];rfl
theorem zLH{x:List Int}{k:Int}(h:S1 x)(k0:0≤k)(k1:k+c1 x≤9223372036854775807):zSA (m1 k x) k=some (k+c1 x):=by
 have hl:=h.len;have hml:(m1 k x).length=x.length:=vW _ _ _ _;have:=zN (body:=zLa (m1 k x)) (r:=.inl (k+c1 x)) (fun i=>(k+(i:Int),(i:Int))) x.length (fun i hi=>by
  have hg:(m1 k x)[i]'(by rw[hml];exact hi)=k+sm (fun _=>1) (x.take i):=zNA _ _ hi _;unfold zLa;rw[decide_eq_true (by simp only[hml];omega),zH,qB (by rw[hml];exact hi),bs,hg,zLG,Jt,Lp (by omega),show(k+(i:Int) != k+(i:Int))=false from by simp,zE,zD (by simp only[c1]at k1;omega) (by simp only[c1]at k1;omega),bs,zD (by omega) (by omega),bs,cs];rw[show k+(i:Int)+1=k+((i+1:Nat):Int)from by omega]) (by
  unfold zLa;rw[decide_eq_false (by simp only[hml];omega),zE])
 unfold zSA;rw[show k+((0:Nat):Int)=k from by omega,show((0:Nat):Int)=0 from rfl]at this;rw[this];rfl
theorem zKf{x:List (List Int)}{k:Int}(h:S2 x)(k0:0≤k)(k1:k+sm c1 x≤9223372036854775807):zUq (m2 k x) k=some (k+sm c1 x):=
 zHP (body:=zSB (m2 k x)) (m:=m1) (c:=c1) (t:=zSA) rfl (fun _=>rfl) h.len k0 k1 fun _ hy _ h1 h2=>zLH (h.mem hy) h1 h2
theorem zIQ{x:List (List (List Int))}{k:Int}(h:S3 x)(k0:0≤k)(k1:k+sm (sm c1) x≤9223372036854775807):zUr (m3 k x) k=some (k+sm (sm c1) x):=
 zHP (body:=zSC (m3 k x)) (m:=m2) (c:=sm c1) (t:=zUq) rfl (fun _=>rfl) h.len k0 k1 fun _ hy _ h1 h2=>zKf (h.mem hy) h1 h2
def zNB(x:SPr):Prop:=VL VI x.zA∧VL (VL VI) x.zT∧VL (VL (VL VI)) x.zB
def zT6(x:zC):Prop:=VI x.Prime∧VI x.Dim∧VL (VL (VL VI)) x.zI
def zKg(x:SPr):Nat:=c1 x.zA+c2 x.zT+c3 x.zB
def zQD(x:zC):Nat:=c3 x.zI
def zBU(x:SPr):Prop:=S1 x.zA∧S2 x.zT∧S3 x.zB
def zG2(x:zC):Prop:=S3 x.zI
theorem zKh{a b:Nat}{n:Int}:(szR a n<0∧szR (a+b) n= -1)∨(0≤szR a n∧szR a n≤n∧szR b (szR a n)=szR (a+b) n∧(a:Int)≤n)∨n<0:=by
 unfold szR
 by_cases h:(a:Int)≤n
 ·rw[if_pos h]
  refine .inr (.inl ⟨by omega,by omega,?_,h⟩)
  by_cases h2:(b:Int)≤n-a
  ·rw[if_pos h2,if_pos (by omega)];omega
  ·rw[if_neg h2,if_neg (by omega)]
 ·rw[if_neg h]
  by_cases h3:n<0
  ·exact .inr (.inr h3)
  ·exact .inl ⟨by omega,by rw[if_neg (by omega)]⟩
theorem zG3{x:SPr}{b:Int}(h:zNB x)(b0:0≤b)(b1:b≤1048576):zTW x b=some (szR (zKg x) b):=by
 obtain⟨h1,h2,h3⟩:=h;unfold zTW zKg;rw[zKc h1.1 b0 b1,bs];rcases zKh (a:=c1 x.zA) (b:=c2 x.zT+c3 x.zB) (n:=b)with⟨g1,g2⟩|⟨g1,g2,g3,g4⟩|g1
 ·rw[decide_eq_true g1,zH,Lv,g2]
 ·rw[decide_eq_false (by omega),zE,zE7 h2 g1 (by omega),bs,Lv,←g3]
  generalize szR (c1 x.zA) b=b' at g1 g2
  rcases zKh (a:=c2 x.zT) (b:=c3 x.zB) (n:=b')with⟨k1,k2⟩|⟨k1,k2,k3,k4⟩|k1
  ·rw[decide_eq_true k1,zH,k2]
  ·rw[decide_eq_false (by omega),zE,zGz h3 k1 (by omega),bs,←k3]
   generalize szR (c2 x.zT) b'=b'' at k1 k2
   unfold szR
   by_cases h4:(c3 x.zB:Int)≤b''
   ·rw[if_pos h4,decide_eq_false (by omega),zE]
   ·rw[if_neg h4];rfl
  ·omega
 ·omega
theorem zQE{x:zC}{b:Int}(h:zT6 x)(b0:0≤b)(b1:b≤1048576):zTX x b=some (szR (zQD x) b):=by
 obtain⟨_,_,h3⟩:=h;unfold zTX zQD;rw[zGz h3 b0 b1,bs];unfold szR
 by_cases h4:(c3 x.zI:Int)≤b
 ·rw[if_pos h4,decide_eq_false (by omega),zE]
 ·rw[if_neg h4];rfl
theorem zIR{c:Nat}{b:Int}(b0:0≤b)(b1:b≤1048576):(decide (szR c b<0)=true)∨(decide (szR c b<0)=false∧0≤szR c b∧szR c b≤1048576∧c≤1048576):=by
 unfold szR
 by_cases h:(c:Int)≤b
 ·rw[if_pos h];exact .inr ⟨decide_eq_false (by omega),by omega,by omega,by omega⟩
 ·rw[if_neg h];exact .inl rfl
theorem zBU.of{x:SPr}(h:zKg x≤1048576):zBU x:=by unfold zKg at h;exact⟨by simp only[S1];omega,by simp only[S2];omega,by simp only[S3];omega⟩
theorem zG2.of{x:zC}(h:zQD x≤1048576):zG2 x:=h
theorem zG4{x:SPr}(h:zBU x):zMz x=some x:=by unfold zMz;rw[zKd h.1,bs,zE8 h.2.1,bs,zG0 h.2.2,bs]
theorem zQF{x:zC}(h:zG2 x):zM0 x=some x:=by unfold zM0;rw[zG0 h,bs]
theorem zQG{x:zC}(h:zG2 x):zUm x x=some true:=by unfold zUm;rw[zBn h,bs];simp
theorem zG5{x:SPr}(h:zBU x):zUn x x=some true:=by unfold zUn;rw[zKe h.1,bs,zE9 h.2.1,bs,zBn h.2.2,bs];simp
theorem zLI{x:List (List Int)}:sm c1 x≤c2 x:=by simp only[c2];omega
theorem zNC{α:Type}{f g:α→Nat}(h:∀x,f x≤g x):∀xs:List α,sm f xs≤sm g xs
 | []=>Ji _
 |x::xs=>by have:=zNC h xs;have:=h x;simp only[sm];omega
theorem zIS{x:List (List (List Int))}:sm (sm c1) x≤c3 x:=by have:=zNC (f:=sm c1) (g:=c2) (fun _=>zLI) x;simp only[c3];omega
theorem zLJ{x:zC}{k:Int}(h:zG2 x)(k0:0≤k)(k1:k≤1000000000):zUp x k=some (k+sm (sm c1) x.zI,zC.mk x.Prime x.Dim (m3 k x.zI)):=by have g3:=zIS (x:=x.zI);have h':=h;simp only[zG2,S3]at h';unfold zUp;rw[zBo h k0 (by omega),bs]
end Go.Pl

namespace Go.Pl
open Go Go.Ab Go.Wk
def IsB(o:Option Bool)(P:Prop):Prop:=(o=some true∧P)∨(o=some false∧ ¬P)
theorem IsB.iff{o:Option Bool}{P Q:Prop}(h:IsB o P)(hpq:P↔Q):IsB o Q:=by
 rcases h with⟨h1,h2⟩|⟨h1,h2⟩
 ·exact .inl ⟨h1,hpq.1 h2⟩
 ·exact .inr ⟨h1,fun h=>h2 (hpq.2 h)⟩
theorem IsB.of_bool{b:Bool}{P:Prop}(h:b=true↔P):IsB (some b) P:=by
 cases b
 ·exact .inr ⟨rfl,fun hp=>by have:=h.2 hp;cases this⟩
 ·exact .inl ⟨rfl,h.1 rfl⟩
theorem chk{ρ:Type}{body:Int→Option (Int⊕(Unit⊕ρ))}(n i0:Nat)(hn:i0≤n)(P:Nat→Prop)(bad:Nat→ρ)
  (h:∀i,i0≤i→i<n→(∀j,i0≤j→j<i→P j)→(body (i:Int)=some (.inl ((i+1:Nat):Int))∧P i)∨(body (i:Int)=some (.inr (.inr (bad i)))∧ ¬P i))
  (he:body (n:Int)=some (.inr (.inl ()))):
  (zF body (i0:Int)=some (.inl ())∧ ∀j,i0≤j→j<n→P j)∨ ∃i,i0≤i∧i<n∧zF body (i0:Int)=some (.inr (bad i))∧ ¬P i:=by
 have key:∀k i,i0≤i→i+k=n→(∀j,i0≤j→j<i→P j)→(zF body (i:Int)=some (.inl ())∧ ∀j,i0≤j→j<n→P j)∨ ∃q,i0≤q∧q<n∧zF body (i:Int)=some (.inr (bad q))∧ ¬P q:=by
  intro k
  induction k with
  |zero=>
   intro i hi hk hp;obtain rfl:i=n:=by omega
   exact .inl ⟨by rw[yL,he],hp⟩
  |succ k ih=>
   intro i hi hk hp;rcases h i hi (by omega) hp with⟨h1,h2⟩|⟨h1,h2⟩
   ·have:=ih (i+1) (by omega) (by omega) fun j a b=>by
     rcases Jf j i with c|c
     ·exact hp j a c
     ·rw[show j=i from by omega];exact h2
    rw[yL,h1];exact this
   ·exact .inr ⟨i,hi,by omega,by rw[yL,h1],h2⟩
 exact key (n-i0) i0 (Ji _) (by omega) fun j a b=>by omega
theorem sC{f:Option Bool}{body:Int→Option (Int⊕(Unit⊕Bool))}(n:Nat)(P:Nat→Prop)
  (hf:f=(zF body 0).bind fun r=>match r with|.inl _=>some true|.inr r=>some r)
  (h:∀i,i<n→(∀j,j<i→P j)→(body (i:Int)=some (.inl ((i+1:Nat):Int))∧P i)∨(body (i:Int)=some (.inr (.inr false))∧ ¬P i))
  (he:body (n:Int)=some (.inr (.inl ()))):IsB f (∀i,i<n→P i):=by
 rcases chk n 0 (K4 _) P (fun _=>false) (fun i _ hi hp=>h i hi fun j hj=>hp j (K4 _) hj) he with⟨h1,h2⟩|⟨i,_,hi,h1,h2⟩
 ·refine .inl ⟨?_,fun i hi=>h2 i (K4 _) hi⟩
  rw[hf];rw[show((0:Nat):Int)=0 from rfl]at h1;rw[h1,bs]
 ·refine .inr ⟨?_,fun hp=>h2 (hp i hi)⟩
  rw[hf];rw[show((0:Nat):Int)=0 from rfl]at h1;rw[h1,bs]
theorem vV{o:Option Bool}{P:Prop}{ρ:Type}{bad:ρ}{i:Nat}{g:Option (Int⊕(Unit⊕ρ))}(h:IsB o P)(hi:i<9223372036854775807)
  (hg:g=o.bind fun r=>cond (!r) (some (.inr (.inr bad))) ((rng ((i:Int)+1)).bind fun v=>some (.inl v))):(g=some (.inl ((i+1:Nat):Int))∧P)∨(g=some (.inr (.inr bad))∧ ¬P):=by
 subst hg;rcases h with⟨h1,h2⟩|⟨h1,h2⟩
 ·refine .inl ⟨?_,h2⟩
  rw[h1,bs,Jj,zE,zD (by omega) (by omega),bs,cs]
 ·refine .inr ⟨?_,h2⟩
  rw[h1,bs,Js,zH]
theorem yI{i n:Nat}(h:i<n):decide ((i:Int)<(n:Int))=true:=decide_eq_true (by omega)
theorem yS{n:Nat}:decide ((n:Int)<(n:Int))=false:=decide_eq_false (by omega)
theorem jJ(x a b:Int):IsB (zM4 x a b) (a≤x∧x≤b):=by
 unfold zM4
 by_cases h:x≥a
 ·rw[decide_eq_true h,zH];exact IsB.of_bool (by simp;omega)
 ·rw[decide_eq_false h,zE];exact .inr ⟨rfl,by omega⟩
theorem zBV(x a b:Int):IsB (zRB x a b) (a≤x∧x≤b):=jJ x a b
def Prime(p:Int):Prop:=p=2∨p=3∨p=5∨p=7
theorem zBp(x:Int):IsB (zOT x) (Prime x):=by
 unfold zOT Prime
 by_cases h2:x=2
 ·subst h2;exact .inl ⟨rfl,.inl rfl⟩
 ·rw[show(x==2)=false from by simpa using h2,zE]
  by_cases h3:x=3
  ·subst h3;exact .inl ⟨rfl,.inr (.inl rfl)⟩
  ·rw[show(x==3)=false from by simpa using h3,zE]
   by_cases h5:x=5
   ·subst h5;exact .inl ⟨rfl,.inr (.inr (.inl rfl))⟩
   ·rw[show(x==5)=false from by simpa using h5,zE]
    exact IsB.of_bool (by simp;omega)
theorem zG6(x:Int):IsB (zTY x) (Prime x):=zBp x
abbrev at0(v:List Int)(i:Nat):Int:=v.getD i 0
theorem yE{v:List Int}{i:Nat}(h:i<v.length):ixO v (i:Int)=some (at0 v i):=by rw[qB h,at0,J2,J3 h];rfl
def zYe(os v:List Int):Prop:=v.length=os.length∧ ∀i,i<v.length→0≤at0 v i∧at0 v i≤at0 os i-1
def Exp(os v:List Int)(k:Nat):Prop:=zYe os v∧ ∀i,i≤k→at0 v i=0
def Os(os:List Int):Prop:=os.length≤9∧ ∀i,i<os.length→Prime (at0 os i)
theorem Prime.pos{p:Int}(h:Prime p):2≤p∧p≤7:=by unfold Prime at h;omega
theorem zEA{x:SPr}{v:List Int}(ho:Os x.zA):IsB (zUg x v) (zYe x.zA v):=by
 unfold zUg
 by_cases h:v.length=x.zA.length
 ·rw[show((v.length:Int) != (x.zA.length:Int))=false from by simp[h],zE]
  have h6:=ho.1;refine(sC v.length (fun i=>0≤at0 v i∧at0 v i≤at0 x.zA i-1) rfl (fun i hi _=>?_) ?_).iff ⟨fun g=>⟨h,g⟩,fun g=>g.2⟩
  ·have hp:=(ho.2 i (by omega)).pos
   refine vV (jJ _ _ _) (by omega) ?_;unfold zOe;rw[yI hi,zH,yE hi,bs,yE (by omega),bs,zD (by omega) (by omega),bs]
  ·unfold zOe
   rw[yS,zE]
 ·rw[show((v.length:Int) != (x.zA.length:Int))=true from by simp;omega,zH]
  exact .inr ⟨rfl,fun g=>h g.1⟩
theorem zKi{v:List Int}(hl:v.length≤9):IsB (f_H v) (∀i,i<v.length→at0 v i=0):=by
 refine sC v.length (fun i=>at0 v i=0) rfl (fun i hi _=>?_) ?_
 ·refine vV (o:=some (at0 v i==0)) (IsB.of_bool (by simp)) (by omega) ?_
  unfold zKS;rw[yI hi,zH,yE hi,bs,bs];rfl
 ·unfold zKS
  rw[yS,zE]
theorem zB6{x:SPr}{k:Nat}{v:List Int}(ho:Os x.zA)(hk:k<x.zA.length):IsB (zRX x k v) (Exp x.zA v k):=by
 have h6:=ho.1;unfold zRX;rcases zEA (v:=v) ho with⟨h1,h2⟩|⟨h1,h2⟩
 ·have hl:=h2.1
  rw[h1,bs,zH,zD (by omega) (by omega),bs];have hs:zQ v 0 ((k:Int)+1)=some (v.take (k+1)):=by
   unfold zQ;rw[if_pos (by omega)];simp only[Hg,Hx,Hb]
   congr 2
  rw[hs,bs];have hb:=zKi (v:=v.take (k+1)) (by rw[Jt];omega);have hiff:(∀i,i<(v.take (k+1)).length→at0 (v.take (k+1)) i=0)↔Exp x.zA v k:=by
   have e:∀i,i≤k→at0 (v.take (k+1)) i=at0 v i:=fun i hi=>by simp only[at0,J2,H5];rw[if_pos (by omega)]
   rw[Jt,Lp (by omega)];exact⟨fun g=>⟨h2,fun i hi=>by rw[←e i hi];exact g i (by omega)⟩,fun g i hi=>by rw[e i (by omega)];exact g.2 i (by omega)⟩
  rcases hb.iff hiff with⟨g1,g2⟩|⟨g1,g2⟩
  ·rw[g1,bs];exact .inl ⟨rfl,g2⟩
  ·rw[g1,bs];exact .inr ⟨rfl,g2⟩
 ·rw[h1,bs,zE]
  exact .inr ⟨rfl,fun g=>h2 g.1⟩
theorem zBW{os v:List Int}{k:Nat}(ho:Os os)(hk:k<os.length):IsB (zRC os v k) (Exp os v k):=by
 have h6:=ho.1;unfold zRC
 by_cases h:v.length=os.length
 ·rw[show((v.length:Int) != (os.length:Int))=false from by simp[h],zE]
  refine(sC v.length (fun i=>(0≤at0 v i∧at0 v i≤at0 os i-1)∧(i≤k→at0 v i=0)) rfl (fun i hi _=>?_) ?_).iff ⟨fun g=>⟨⟨h,fun i hi=>(g i hi).1⟩,fun i hi=>(g i (by omega)).2 hi⟩,fun g i hi=>⟨g.1.2 i hi,fun hk=>g.2 i hk⟩⟩
  ·have hp:=(ho.2 i (by omega)).pos
   unfold zOa;rw[yI hi,zH,yE hi,bs,yE (by omega),bs,zD (by omega) (by omega),bs];rcases zBV (at0 v i) 0 (at0 os i-1)with⟨h1,h2⟩|⟨h1,h2⟩
   ·rw[h1,bs,Jj,zE]
    by_cases h3:(i:Int)≤(k:Int)
    ·rw[decide_eq_true h3,zH,bs]
     by_cases h4:at0 v i=0
     ·rw[show(at0 v i != 0)=false from by simp only[h4];rfl,zE,zD (by omega) (by omega),bs,cs]
      exact .inl ⟨rfl,h2,fun _=>h4⟩
     ·rw[show(at0 v i != 0)=true from by simpa using h4,zH]
      exact .inr ⟨rfl,fun g=>h4 (g.2 (by omega))⟩
    ·rw[decide_eq_false h3,zE,zD (by omega) (by omega),bs,cs]
     exact .inl ⟨rfl,h2,fun g=>absurd (by omega) h3⟩
   ·rw[h1,bs,Js,zH]
    exact .inr ⟨rfl,fun g=>h2 g.1⟩
  ·unfold zOa
   rw[yS,zE]
 ·rw[show((v.length:Int) != (os.length:Int))=true from by simp;omega,zH]
  exact .inr ⟨rfl,fun g=>h g.1.1⟩
end Go.Pl

namespace Go.Pl
open Go Go.Ab Go.Wk
theorem zYU{σ ρ:Type}{body:σ→Option (σ⊕(Unit⊕ρ))}(S:Nat→σ)(n i0:Nat)(hn:i0≤n)(P:Nat→Prop)(bad:Nat→ρ)
  (h:∀i,i0≤i→i<n→(∀j,i0≤j→j<i→P j)→(body (S i)=some (.inl (S (i+1)))∧P i)∨(body (S i)=some (.inr (.inr (bad i)))∧ ¬P i))
  (he:body (S n)=some (.inr (.inl ()))):
  (zF body (S i0)=some (.inl ())∧ ∀j,i0≤j→j<n→P j)∨ ∃i,i0≤i∧i<n∧zF body (S i0)=some (.inr (bad i))∧ ¬P i:=by
 have key:∀k i,i0≤i→i+k=n→(∀j,i0≤j→j<i→P j)→(zF body (S i)=some (.inl ())∧ ∀j,i0≤j→j<n→P j)∨ ∃q,i0≤q∧q<n∧zF body (S i)=some (.inr (bad q))∧ ¬P q:=by
  intro k
  induction k with
  |zero=>
   intro i hi hk hp;obtain rfl:i=n:=by omega
   exact .inl ⟨by rw[yL,he],hp⟩
  |succ k ih=>
   intro i hi hk hp;rcases h i hi (by omega) hp with⟨h1,h2⟩|⟨h1,h2⟩
   ·have:=ih (i+1) (by omega) (by omega) fun j a b=>by
     rcases Jf j i with c|c
     ·exact hp j a c
     ·rw[show j=i from by omega];exact h2
    rw[yL,h1];exact this
   ·exact .inr ⟨i,hi,by omega,by rw[yL,h1],h2⟩
 exact key (n-i0) i0 (Ji _) (by omega) fun j a b=>by omega
theorem jK{a b:Int}(h:a=b):(a != b)=false:=by simp[h]
theorem qC{a b:Int}(h:a≠b):(a != b)=true:=by simp[h]
def pr(os:List Int):Nat→Int
 |0=>1
 |i+1=>pr os i*at0 os i
def cp(os:List Int):Nat→Int
 |0=>1
 |i+1=>if cp os i≤729 then cp os i*at0 os i else cp os i
theorem zG7{os:List Int}:∀{i:Nat},(∀j,j<i→Prime (at0 os j))→1≤pr os i
 |0,_=>by simp[pr]
 |i+1,h=>by
  have h1:=zG7 (os:=os) (i:=i) fun j hj=>h j (by omega)
  have h2:=(h i (by omega)).pos;simp only[pr];have:(1:Int)*1≤pr os i*at0 os i:=H2 h1 (by omega) (by omega) (by omega);omega
theorem zND{os:List Int}{i:Nat}(h:∀j,j≤i→Prime (at0 os j)):pr os i≤pr os (i+1):=by
 have h1:=zG7 (os:=os) (i:=i) fun j hj=>h j (by omega)
 have h2:=(h i (Ji _)).pos;simp only[pr];have:pr os i*1≤pr os i*at0 os i:=G9 (by omega) (by omega);omega
theorem zNE{os:List Int}{n:Nat}(h:∀j,j<n→Prime (at0 os j)):∀k,k≤n→pr os (n-k)≤pr os n
 |0,_=>Int.le_refl _
 |k+1,hk=>by
  have h1:=zNE h k (by omega);have h2:=zND (os:=os) (i:=n-(k+1)) fun j hj=>h j (by omega)
  rw[show n-(k+1)+1=n-k from by omega]at h2;omega
theorem zQH{os:List Int}:∀{i:Nat},(∀j,j<i→Prime (at0 os j))→(cp os i=pr os i∧pr os i≤729∨729<cp os i∧cp os i≤5103∧729<pr os i)
 |0,_=>by simp[cp,pr]
 |i+1,h=>by
  have h0:∀j,j<i→Prime (at0 os j):=fun j hj=>h j (by omega)
  have h2:=(h i (by omega)).pos;have h3:=zND (os:=os) (i:=i) fun j hj=>h j (by omega)
  have hpp:=zG7 h0;simp only[cp];rcases zQH h0 with⟨h1,h4⟩|⟨h1,h4,h5⟩
  ·rw[h1,if_pos h4]
   have h6:pr os i*at0 os i≤729*7:=H2 h4 h2.2 (by omega) (by omega);simp only[pr]at h3 ⊢
   generalize pr os i*at0 os i=b at h3 h6 ⊢
   simp only[true_and];omega
  ·rw[if_neg (by omega)]
   omega
def zFe(x:SPr)(i:Nat):Prop:=Exp x.zA (x.zT.getD i []) i∧(x.zB.getD i []).length+i+1=x.zA.length∧ ∀j,j<(x.zB.getD i []).length→Exp x.zA ((x.zB.getD i []).getD j []) i
structure zCO (x:SPr):Prop where
 os:True∧ ∀i,i<x.zA.length→Prime (at0 x.zA i)
 pl:x.zT.length=x.zA.length
 cl:x.zB.length=x.zA.length
 tl:∀i,i<x.zA.length→zFe x i
structure Pres (x:SPr):Prop where
 os:Os x.zA
 pl:x.zT.length=x.zA.length
 cl:x.zB.length=x.zA.length
 tl:∀i,i<x.zA.length→zFe x i
theorem Pres.w{x:SPr}(h:Pres x):zCO x:=⟨⟨trivial,h.os.2⟩,h.pl,h.cl,h.tl⟩
structure zDN (x:SPr):Prop extends Pres x where
 n6:x.zA.length≤6
 pr:pr x.zA x.zA.length≤729
theorem yC{α:Type}{v:List α}{i:Nat}(d:α)(h:i<v.length):ixO v (i:Int)=some (v.getD i d):=by rw[qB h,J2,J3 h];rfl
theorem zLK{x:SPr}(ho:Os x.zA)(hp:x.zT.length=x.zA.length)(hc:x.zB.length=x.zA.length){i:Nat}(hi:i<x.zA.length):
  (zM6 x i=some (.inl ((i+1:Nat):Int))∧zFe x i)∨(zM6 x i=some (.inr (.inr false))∧ ¬zFe x i):=by
 have h6:=ho.1;unfold zM6;rw[yI hi,zH,yC [] (by omega),bs];rcases zB6 (v:=x.zT.getD i []) ho hi with⟨h1,h2⟩|⟨h1,h2⟩
 ·rw[h1,bs,Jj,zE,yC [] (by omega),bs,zD (by omega) (by omega),bs,zD (by omega) (by omega),bs]
  by_cases hl:(x.zB.getD i []).length+i+1=x.zA.length
  ·rw[jK (by omega),zE,bs]
   rcases chk (body:=zRY x i (x.zB.getD i [])) (x.zB.getD i []).length 0 (K4 _) (fun j=>Exp x.zA ((x.zB.getD i []).getD j []) i) (fun _=>false) (fun j _ hj _=>by
     refine vV (zB6 ho hi) (by omega) ?_;unfold zRY;rw[yI hj,zH,yC [] hj,bs]) (by
     unfold zRY;rw[yS,zE])with⟨g1,g2⟩|⟨j,_,hj,g1,g2⟩
   ·rw[show((0:Nat):Int)=0 from rfl]at g1
    rw[g1,bs];simp only
    rw[zD (by omega) (by omega),bs,cs];exact .inl ⟨rfl,h2,hl,fun j hj=>g2 j (K4 _) hj⟩
   ·rw[show((0:Nat):Int)=0 from rfl]at g1
    rw[g1,bs];exact .inr ⟨rfl,fun g=>g2 (g.2.2 j hj)⟩
  ·rw[qC (by omega),zH]
   exact .inr ⟨rfl,fun g=>hl g.2.1⟩
 ·rw[h1,bs,Js,zH]
  exact .inr ⟨rfl,fun g=>h2 g.1⟩
theorem zLL{x:SPr}(ho:Os x.zA)(hp:x.zT.length=x.zA.length)(hc:x.zB.length=x.zA.length){i:Nat}(hi:i<x.zA.length):
  (zM1 x i=some (.inl ((i+1:Nat):Int))∧zFe x i)∨(zM1 x i=some (.inr (.inr false))∧ ¬zFe x i):=by
 have h6:=ho.1;unfold zM1;rw[yI hi,zH,yC [] (by omega),bs];rcases zBW (v:=x.zT.getD i []) ho hi with⟨h1,h2⟩|⟨h1,h2⟩
 ·rw[h1,bs,Jj,zE,yC [] (by omega),bs,zD (by omega) (by omega),bs,zD (by omega) (by omega),bs]
  by_cases hl:(x.zB.getD i []).length+i+1=x.zA.length
  ·rw[jK (by omega),zE]
   rcases chk (body:=zRE x i) (x.zB.getD i []).length 0 (K4 _) (fun j=>Exp x.zA ((x.zB.getD i []).getD j []) i) (fun _=>false) (fun j _ hj _=>by
     refine vV (zBW ho hi) (by omega) ?_;unfold zRE;rw[yC [] (by omega),bs,yI hj,zH,bs,yC [] hj,bs]) (by
     unfold zRE;rw[yC [] (by omega),bs,yS,zE])with⟨g1,g2⟩|⟨j,_,hj,g1,g2⟩
   ·rw[show((0:Nat):Int)=0 from rfl]at g1
    rw[g1,bs];simp only
    rw[zD (by omega) (by omega),bs,cs];exact .inl ⟨rfl,h2,hl,fun j hj=>g2 j (K4 _) hj⟩
   ·rw[show((0:Nat):Int)=0 from rfl]at g1
    rw[g1,bs];exact .inr ⟨rfl,fun g=>g2 (g.2.2 j hj)⟩
  ·rw[qC (by omega),zH]
   exact .inr ⟨rfl,fun g=>hl g.2.1⟩
 ·rw[h1,bs,Js,zH]
  exact .inr ⟨rfl,fun g=>h2 g.1⟩
theorem zKj{x:SPr}(h6:x.zA.length≤6):
  (zF (zM5 x) (1,0)=some (.inl ())∧Os x.zA∧pr x.zA x.zA.length≤729)∨(zF (zM5 x) (1,0)=some (.inr false)∧ ¬(Os x.zA∧pr x.zA x.zA.length≤729)):=by
 rcases zYU (body:=zM5 x) (fun i=>(pr x.zA i,(i:Int))) x.zA.length 0 (K4 _) (fun i=>Prime (at0 x.zA i)∧pr x.zA (i+1)≤729) (fun _=>false) (fun i _ hi hpre=>by
   have hp:∀j,j<i→Prime (at0 x.zA j):=fun j hj=>(hpre j (K4 _) hj).1
   have hpp:=zG7 hp;have hle:pr x.zA i≤729:=by
    cases i with
    |zero=>simp[pr]
    |succ i=>exact(hpre i (K4 _) (by omega)).2
   unfold zM5;rw[yI hi,zH,yE hi,bs];rcases zBp (at0 x.zA i)with⟨h1,h2⟩|⟨h1,h2⟩
   ·have h3:=h2.pos
    have h4:pr x.zA i*at0 x.zA i≤729*7:=H2 hle h3.2 (by omega) (by omega);have h5:1*1≤pr x.zA i*at0 x.zA i:=H2 hpp (by omega) (by omega) (by omega);simp only
    rw[h1,bs,Jj,zE,zD (by omega) (by omega),bs]
    by_cases h7:pr x.zA i*at0 x.zA i> 729
    ·rw[decide_eq_true h7,zH]
     exact .inr ⟨rfl,fun g=>by have:=g.2;simp only[pr]at this;omega⟩
    ·rw[decide_eq_false h7,zE,bs,zD (by omega) (by omega),bs,cs]
     exact .inl ⟨rfl,h2,by simp only[pr];omega⟩
   ·rw[h1,bs,Js,zH]
    exact .inr ⟨rfl,fun g=>h2 g.1⟩) (by
   unfold zM5;rw[yS,zE])with⟨g1,g2⟩|⟨i,_,hi,g1,g2⟩
 ·refine .inl ⟨g1,⟨by omega,fun i hi=>(g2 i (K4 _) hi).1⟩,?_⟩
  cases hn:x.zA.length with
  |zero=>simp[pr]
  |succ n=>exact(g2 n (K4 _) (by omega)).2
 ·refine .inr ⟨g1,fun⟨h1,h2⟩=>g2 ⟨h1.2 i hi,?_⟩⟩
  have:=zNE (os:=x.zA) (n:=x.zA.length) h1.2 (x.zA.length-(i+1)) (by omega);rw[show x.zA.length-(x.zA.length-(i+1))=i+1 from by omega]at this;omega
theorem zIT{os:List Int}(ho:Os os):zTZ os=some (cp os os.length):=by
 have h6:=ho.1;unfold zTZ;rw[show(1,0)=(fun i=>(cp os i,(i:Int))) 0 from rfl,zN (body:=zKP os) (r:=cp os os.length) (fun i=>(cp os i,(i:Int))) os.length (fun i hi=>by
  have hp:=(ho.2 i hi).pos;have hc:=zQH (os:=os) (i:=i) fun j hj=>ho.2 j (by omega)
  have hpp:=zG7 (os:=os) (i:=i) fun j hj=>ho.2 j (by omega)
  unfold zKP;rw[yI hi,zH];simp only[cp]
  by_cases h:cp os i≤729
  ·have h4:cp os i*at0 os i≤729*7:=H2 h hp.2 (by omega) (by omega)
   have h5:1*1≤cp os i*at0 os i:=H2 (by omega) (by omega) (by omega) (by omega);rw[decide_eq_true h,zH,yE hi,bs,zD (by omega) (by omega),bs,zD (by omega) (by omega),bs,cs,if_pos h]
  ·rw[decide_eq_false h,zE,zD (by omega) (by omega),bs,cs,if_neg h]) (by
  unfold zKP;rw[yS,zE]),bs]
theorem zC8{x:SPr}(hl:x.zA.length≤1048576):IsB (f_s x) (zDN x):=by
 unfold f_s
 by_cases h6:x.zA.length≤6
 ·rw[decide_eq_false (by omega),zE]
  by_cases hp:x.zT.length=x.zA.length
  ·rw[jK (by omega),zE]
   by_cases hc:x.zB.length=x.zA.length
   ·rw[jK (by omega),zE]
    rcases zKj h6 with⟨h1,h2,h3⟩|⟨h1,h2⟩
    ·rw[h1,bs]
     exact(sC (f:=(zF (zM6 x) 0).bind fun r=>match r with|.inl _=>some true|.inr r=>some r) x.zA.length (zFe x) rfl (fun i hi _=>zLK h2 hp hc hi) (by unfold zM6;rw[yS,zE])).iff ⟨fun g=>⟨⟨h2,hp,hc,g⟩,h6,h3⟩,fun g=>g.tl⟩
    ·rw[h1,bs]
     exact .inr ⟨rfl,fun g=>h2 ⟨g.os,g.pr⟩⟩
   ·rw[qC (by omega),zH]
    exact .inr ⟨rfl,fun g=>hc g.cl⟩
  ·rw[qC (by omega),zH]
   exact .inr ⟨rfl,fun g=>hp g.pl⟩
 ·rw[decide_eq_true (by omega),zH]
  exact .inr ⟨rfl,fun g=>h6 g.n6⟩
theorem zC9{x:SPr}(hl:x.zA.length≤1048576):IsB (f_w x) (zDN x):=by
 unfold f_w
 by_cases h6:x.zA.length≤6
 ·rw[decide_eq_false (by omega),zE]
  by_cases hp:x.zT.length=x.zA.length
  ·rw[jK (by omega),zE]
   by_cases hc:x.zB.length=x.zA.length
   ·rw[jK (by omega),zE]
    rcases chk (body:=zRD x) x.zA.length 0 (K4 _) (fun i=>Prime (at0 x.zA i)) (fun _=>false) (fun i _ hi _=>by
      refine vV (zG6 _) (by omega) ?_;unfold zRD;rw[yI hi,zH,yE hi,bs]) (by
      unfold zRD;rw[yS,zE])with⟨g1,g2⟩|⟨i,_,hi,g1,g2⟩
    ·rw[show((0:Nat):Int)=0 from rfl]at g1
     have ho:Os x.zA:=⟨by omega,fun i hi=>g2 i (K4 _) hi⟩;have hcp:=zQH (os:=x.zA) (i:=x.zA.length) ho.2;rw[g1,bs];simp only
     rw[zIT ho,bs]
     by_cases h7:cp x.zA x.zA.length> 729
     ·rw[decide_eq_true h7,zH]
      exact .inr ⟨rfl,fun g=>by have:=g.pr;omega⟩
     ·rw[decide_eq_false h7,zE]
      exact(sC (f:=(zF (zM1 x) 0).bind fun r=>match r with|.inl _=>some true|.inr r=>some r) x.zA.length (zFe x) rfl (fun i hi _=>zLL ho hp hc hi) (by unfold zM1;rw[yS,zE])).iff ⟨fun g=>⟨⟨ho,hp,hc,g⟩,h6,by omega⟩,fun g=>g.tl⟩
    ·rw[show((0:Nat):Int)=0 from rfl]at g1
     rw[g1,bs];exact .inr ⟨rfl,fun g=>g2 (g.os.2 i hi)⟩
   ·rw[qC (by omega),zH]
    exact .inr ⟨rfl,fun g=>hc g.cl⟩
  ·rw[qC (by omega),zH]
   exact .inr ⟨rfl,fun g=>hp g.pl⟩
 ·rw[decide_eq_true (by omega),zH]
  exact .inr ⟨rfl,fun g=>h6 g.n6⟩
end Go.Pl

namespace Go.Pl
open Go Go.Ab Go.Wk Go.Pc
def lvl(x:SPr)(i:Nat):Lvl:=⟨at0 x.zA i,(x.zT.getD i []).drop (i+1),(x.zB.getD i []).map (·.drop (i+1))⟩
def suf(x:SPr)(k:Nat):Pcp:=(Qc k (x.zA.length-k)).map (lvl x)
theorem xM(x:SPr)(k:Nat):(suf x k).length=x.zA.length-k:=by simp[suf]
theorem yK{x:SPr}{k:Nat}(h:k<x.zA.length):suf x k=lvl x k::suf x (k+1):=by unfold suf;rw[show x.zA.length-k=(x.zA.length-(k+1))+1 from by omega,Jbu,Jk]
theorem vZ{x:SPr}{k:Nat}(h:x.zA.length≤k):suf x k=[]:=by unfold suf;rw[show x.zA.length-k=0 from by omega];rfl
theorem zAO{os v:List Int}{k:Nat}(h:Exp os v k)(hk:k<os.length):v=zeros (k+1)++v.drop (k+1):=by
 have h1:=h.1.1;apply La;intro i;rw[Kz];simp only[zeros,Jy,Ki,Ko];split
 ·rename_i hi
  have h2:=h.2 i (by omega);rw[J3 (by omega)];rw[at0,J2,J3 (by omega)]at h2;simpa using h2
 ·rw[show k+1+(i-(k+1))=i from by omega]
theorem zVZ{x:SPr}:∀(d k:Nat)(v:List Int),k+d=x.zA.length→v.length=d→(∀i,i<d→0≤at0 v i∧at0 v i≤at0 x.zA (k+i)-1)→V (suf x k) v
 |0,k,v,hk,hv,_=>by rw[vZ (by omega)];simpa[V]using hv
 |d+1,k,v,hk,hv,h=>by
  rw[yK (by omega)]
  match v,hv with
  |a::v,hv=>
   have h0:=h 0 (by omega);simp only[at0,H9,G7]at h0;refine⟨⟨h0.1,by simp only[lvl,at0];omega⟩,zVZ d (k+1) v (by omega) (by simpa using hv) fun i hi=>?_⟩;have:=h (i+1) (by omega);simp only[at0,Uh]at this;rw[show k+1+i=k+(i+1)from by omega];exact this
theorem zHQ{x:SPr}{v:List Int}{k:Nat}(h:Exp x.zA v k)(hk:k<x.zA.length):V (suf x (k+1)) (v.drop (k+1)):=by
 have h1:=h.1.1;refine zVZ (x.zA.length-(k+1)) (k+1) _ (by omega) (by rw[K8];omega) fun i hi=>?_
 have:=h.1.2 (k+1+i) (by omega);have e:at0 (v.drop (k+1)) i=at0 v (k+1+i):=by simp only[at0,J2,Ko]
 rw[e];exact this
theorem zCO.ok{x:SPr}(h:zCO x):∀(d k:Nat),k+d=x.zA.length→Pc.Ok (suf x k)
 |0,k,hk=>by rw[vZ (by omega)];simp only[Pc.Ok]
 |d+1,k,hk=>by
  rw[yK (by omega)];obtain⟨t1,t2,t3⟩:=h.tl k (by omega);refine⟨by simp only[lvl];have:=(h.os.2 k (by omega)).pos;omega,zHQ t1 (by omega),?_,fun c hc=>?_,zCO.ok h d (k+1) (by omega)⟩
  ·rw[xM];simp only[lvl,Jl];omega
  ·simp only[lvl,Jg]at hc
   obtain⟨u,hu,rfl⟩:=hc;obtain⟨j,hj,rfl⟩:=Ks.1 hu;have:=t3 j hj;rw[J2,J3 hj]at this;exact zHQ this (by omega)
theorem zCO.okAt{x:SPr}(h:zCO x){k:Nat}(hk:k≤x.zA.length):Pc.Ok (suf x k):=h.ok (x.zA.length-k) k (by omega)
theorem Pres.okAt{x:SPr}(h:Pres x){k:Nat}(hk:k≤x.zA.length):Pc.Ok (suf x k):=h.w.okAt hk
theorem zS(n:Nat):(zeros n).length=n:=by simp[zeros]
theorem zFf(k:Nat):zeros (k+1)=zeros k++[0]:=by simp[zeros,Jac]
theorem zCP{k:Nat}{a b:Int}{v:Vec}:(zeros k++a::v).set k b=zeros k++b::v:=by rw[Hf _ _ (by rw[zS];omega),zS,Kk,Kq]
theorem zBX{k:Nat}{a:Int}{v:Vec}:ixO (zeros k++a::v) (k:Int)=some a:=by rw[wU,J8 (by rw[zS];omega),zS,Kk];rfl
theorem zBq{k:Nat}{v:Vec}:zeros k++0::v=zeros (k+1)++v:=by rw[zFf,Jc];rfl
theorem tN{v:List Int}(h:v.length≤1000000):f_v v=some v:=by unfold f_v;rw[yF (by simp;omega),bs,Jp]
end Go.Pl

namespace Go.Pl
open Go Go.Ab Go.Wk Go.Pc
theorem zAP{m:Vec→Vec→Vec}:∀(cs:List Vec)(x:Vec)(i:Nat)(acc:Vec),i<cs.length→i<x.length→
  img m (cs.take (i+1)) (x.take (i+1)) acc=iter (at0 x i).toNat (fun v=>m v (cs.getD i [])) (img m (cs.take i) (x.take i) acc)
 | [],_,_,_,h,_=>by simp at h
 |_::_,[],_,_,_,h=>by simp at h
 |c::cs,a::x,0,acc,_,_=>by simp only[Jd,Kd,Jx,img,at0,H9]
 |c::cs,a::x,i+1,acc,h,h'=>by simp only[Kd,img,at0,Uh];exact zAP cs x i _ (by simpa using h) (by simpa using h')
theorem wT{α β:Type}{body:α×Int→Option ((α×Int)⊕α)}{S:β→Prop}(e:β→α)(g:β→β)(n:Int)(hn:0≤n)(hS:∀a,S a→S (g a))
  (h:∀a(i:Nat),S a→(i:Int)<n→body (e a,(i:Int))=some (.inl (e (g a),((i+1:Nat):Int))))(he:∀a,S a→body (e a,n)=some (.inr (e a))){a:β}(ha:S a):
  zF body (e a,0)=some (e (iter n.toNat g a)):=by
 have hit:∀k,S (iter k g a):=fun k=>vD (S:=S) hS k ha
 exact zN (body:=body) (r:=e (iter n.toNat g a)) (fun i=>(e (iter i g a),(i:Int))) n.toNat (fun i hi=>by
  rw[h _ i (hit i) (by omega),vK]) (by
  rw[show((n.toNat:Nat):Int)=n from by omega];exact he _ (hit _))
theorem zKk{k i:Nat}{v:Vec}(h:i<v.length):ixO (zeros k++v) ((k+i:Nat):Int)=some (at0 v i):=by rw[wU,J8 (by rw[zS];omega),zS,show k+i-k=i from by omega,J3 h,at0,J2,J3 h];rfl
theorem zDq{x:SPr}(ho:Os x.zA):∀(d k:Nat)(v:List Int),k+d=x.zA.length→V (suf x k) v→v.length=d∧ ∀i,i<d→0≤at0 v i∧at0 v i<at0 x.zA (k+i)∧at0 v i≤6
 |0,k,v,hk,hv=>by rw[vZ (by omega)]at hv;simp only[V]at hv;subst hv;exact⟨rfl,fun i hi=>by omega⟩
 |d+1,k,v,hk,hv=>by
  rw[yK (by omega)]at hv
  match v,hv with
  |a::v,hv=>
   obtain⟨h1,h2⟩:=zDq ho d (k+1) v (by omega) hv.2;refine⟨by simp[h1],fun i hi=>?_⟩;cases i with
   |zero=>
    have h3:=hv.1;simp only[lvl]at h3;have:=(ho.2 k (by omega)).pos;simp only[at0,H9,G7]at h3 this ⊢
    omega
   |succ i=>
    have:=h2 i (by omega);simp only[at0,Uh]at this ⊢
    rw[show k+(i+1)=k+1+i from by omega];exact this
theorem zDO{x:SPr}(h:Pres x){k i:Nat}(hk:k<x.zA.length)(hi:i<x.zA.length-(k+1)):
  ∃c,ixO x.zB (k:Int)=some (x.zB.getD k [])∧ixO (x.zB.getD k []) (i:Int)=some (zeros (k+1)++c)∧V (suf x (k+1)) c∧(lvl x k).cs.getD i []=c:=by
 obtain⟨t1,t2,t3⟩:=h.tl k hk;have hc:=h.cl;have ht:=t3 i (by omega);refine⟨((x.zB.getD k []).getD i []).drop (k+1),yC [] (by omega),?_,zHQ ht hk,?_⟩
 ·rw[yC [] (by omega),←zAO ht hk]
 ·simp only[lvl,J2,Ju]
  rw[J3 (l:=x.zB[k]?.getD []) (by rw[J2]at t2;omega)];rfl
def FAt(x:SPr)(k:Nat)(g:SPr→Int→List Int→List Int→Option (List Int)):Prop:=
 ∀a b,V (suf x k) a→V (suf x k) b→g x k (zeros k++a) (zeros k++b)=some (zeros k++mul (suf x k) a b)
def FIm(x:SPr)(k:Nat)(g:SPr→Int→List Int→Option (List Int)):Prop:=
 ∀v,V (suf x (k+1)) v→g x k (zeros (k+1)++v)=some (zeros (k+1)++sig (suf x (k+1)) (lvl x k) v)
theorem zLM{x:SPr}(h:Pres x){k:Nat}(hk:k<x.zA.length){g:SPr→Int→List Int→List Int→Option (List Int)}(hg:FAt x (k+1) g):FIm x k (b_e g):=by
 intro v hv;have h6:=h.os.1;have ok:=h.okAt (k:=k+1) (by omega);obtain⟨hvl,hvr⟩:=zDq h.os (x.zA.length-(k+1)) (k+1) v (by omega) hv;have hlen:=xM x (k+1);have hcl:(lvl x k).cs.length=x.zA.length-(k+1):=by have:=h.okAt (k:=k) (by omega);rw[yK hk]at this;rw[this.2.2.1,hlen]
 have hcs:∀c∈(lvl x k).cs,V (suf x (k+1)) c:=by have:=h.okAt (k:=k) (by omega);rw[yK hk]at this;exact this.2.2.2.1
 have hA:∀i,V (suf x (k+1)) (img (mul (suf x (k+1))) ((lvl x k).cs.take i) (v.take i) (zeros (suf x (k+1)).length)):=fun i=>
  qA (xP ok) _ _ (fun c hc=>hcs c (Gl hc)) (wK ok)
 unfold b_e;rw[yO (by omega),bs,zD (by omega) (by omega),bs,cs];have hz:J1 x.zA.length (0:Int)=zeros (k+1)++zeros (suf x (k+1)).length:=by rw[hlen];simp only[zeros,Jm];congr 1;omega
 rw[hz];have:=zN (body:=zRG g x k (zeros (k+1)++v)) (r:=zeros (k+1)++sig (suf x (k+1)) (lvl x k) v)
  (fun i=>(zeros (k+1)++img (mul (suf x (k+1))) ((lvl x k).cs.take i) (v.take i) (zeros (suf x (k+1)).length),((k+1+i:Nat):Int))) (x.zA.length-(k+1)) (fun i hi=>by
  have hr:=hvr i hi;obtain⟨c,c1,c2,c3,c4⟩:=zDO h hk hi;unfold zRG;rw[decide_eq_true (by simp only;omega),zH];rw[wT (S:=V (suf x (k+1))) (body:=zRF g x k (zeros (k+1)++v) (zeros (k+1)++img (mul (suf x (k+1))) ((lvl x k).cs.take i) (v.take i) (zeros (suf x (k+1)).length),((k+1+i:Nat):Int))) (fun u=>zeros (k+1)++u) (fun u=>mul (suf x (k+1)) u c) (at0 v i) hr.1 (fun u hu=>xP ok hu c3) (fun u q hu hq=>by
   unfold zRF;simp only
   rw[zKk (by omega),bs,decide_eq_true hq,zH,zD (by omega) (by omega),bs,c1,bs,zD (by omega) (by omega),bs,zD (by omega) (by omega),bs,
    show(((k+1+i:Nat):Int)-(k:Int)-1)=(i:Int)from by omega,c2,bs,cs,hg u c hu c3,bs,zD (by omega) (by omega),bs,cs]) (fun u hu=>by
   unfold zRF;simp only
   rw[zKk (by omega),bs,decide_eq_false (by omega),zE]) (hA i),bs,zD (by omega) (by omega),bs,cs]
  rw[zAP _ _ _ _ (by omega) (by omega),c4];rfl) (by
  unfold zRG;rw[decide_eq_false (by simp only;omega),zE,Je (by omega),Je (by omega)];rfl)
 simp only[Jx,img]at this;rw[this,bs]
theorem zT7{x:SPr}(h:Pres x){k:Nat}(hk:k<x.zA.length){g:SPr→Int→List Int→List Int→Option (List Int)}{gi:SPr→Int→List Int→Option (List Int)}(hg:FAt x (k+1) g)(hi:FIm x k gi):FAt x k (b_a gi g):=by
 intro a b ha hb;have h6:=h.os.1;have hp:=(h.os.2 k hk).pos;have ok:=h.okAt (k:=k+1) (by omega);have ok0:=h.okAt (k:=k) (by omega);obtain⟨hal,har⟩:=zDq h.os (x.zA.length-k) k a (by omega) ha;obtain⟨hbl,hbr⟩:=zDq h.os (x.zA.length-k) k b (by omega) hb;rw[yK hk]at ha hb ok0;obtain⟨a0,a,rfl⟩:∃a0 a',a=a0::a':=by cases a with|nil=>simp at hal;omega|cons p q=>exact⟨p,q,rfl⟩
 obtain⟨b0,b,rfl⟩:∃a0 a',b=a0::a':=by cases b with|nil=>simp at hbl;omega|cons p q=>exact⟨p,q,rfl⟩
 obtain⟨⟨a1,a2⟩,ha⟩:=ha;obtain⟨⟨b1,b2⟩,hb⟩:=hb;have hor:(lvl x k).o=at0 x.zA k:=rfl;rw[hor]at a2 b2;unfold b_a;rw[decide_eq_false (by omega),zE,tN (by simp[zS]at hal ⊢;omega),bs,tN (by simp[zS]at hbl ⊢;omega),bs,zBX,bs,zBX,bs,J7,zCP,zCP,zBq,zBq];have hsig:∀u,V (suf x (k+1)) u→V (suf x (k+1)) (sig (suf x (k+1)) (lvl x k) u):=fun u hu=>zDo ok0 hu
 have hit:V (suf x (k+1)) (iter b0.toNat (sig (suf x (k+1)) (lvl x k)) a):=vD hsig _ ha;rw[wT (S:=V (suf x (k+1))) (fun u=>zeros (k+1)++u) (sig (suf x (k+1)) (lvl x k)) b0 b1 hsig (fun u q hu hq=>by
   unfold zUa;simp only
   rw[zBX,bs,decide_eq_true hq,zH,hi u hu,bs,zD (by omega) (by omega),bs,cs]) (fun u hu=>by
   unfold zUa;simp only
   rw[zBX,bs,decide_eq_false (by omega),zE]) ha,bs,zD (by omega) (by omega),bs,cs,hg _ _ hit hb,bs,bs,bs,zD (by omega) (by omega),bs,yE hk,bs]
 have hm:=xP ok hit hb;have hml:=(zDq h.os (x.zA.length-(k+1)) (k+1) _ (by omega) hm).1;have own:∀u,V (suf x (k+1)) u→f_v (zeros (k+1)++u)=some (zeros (k+1)++u):=fun u hu=>tN (by have:=(zDq h.os (x.zA.length-(k+1)) (k+1) _ (by omega) hu).1;rw[J6,zS];omega)
 rw[yK hk,yU,hor]
 by_cases hge:a0+b0≥at0 x.zA k
 ·have t1:=(h.tl k hk).1
  have hw:=zHQ t1 hk;have hwl:=h.pl;rw[decide_eq_true hge,zH,if_pos hge,bs,zD (by omega) (by omega),bs,bs,yC [] (by omega),bs,zAO t1 hk,hg _ _ hw hm,bs,own _ (xP ok hw hm),bs];rw[←zBq,zBX,bs,zCP];rfl
 ·rw[decide_eq_false hge,zE,if_neg hge,own _ hm,bs,←zBq,zBX,bs,zCP]
theorem zEB{x:SPr}(h:Pres x):∀(d k:Nat),k+d=x.zA.length→(∀m,2*d+1≤m→FAt x k (zM3 m))∧(1≤d→ ∀m,2*d≤m→FIm x k (zM2 m))
 |0,k,hk=>by refine⟨fun m hm a b ha hb=>?_,fun h=>by omega⟩;have h6:=h.os.1;obtain⟨m,rfl⟩:∃m',m=m'+1:=⟨m-1,by omega⟩;show b_a _ _ x k _ _=_;unfold b_a;rw[decide_eq_true (by omega),zH,yO (by omega),bs,vZ (by omega)];simp only[mul,J9,zeros];rw[show k=x.zA.length from by omega]
 |d+1,k,hk=>by
  obtain⟨h1,h2⟩:=zEB h d (k+1) (by omega);have hI:∀m,2*(d+1)≤m→FIm x k (zM2 m):=fun m hm=>by obtain⟨m,rfl⟩:∃m',m=m'+1:=⟨m-1,by omega⟩;exact zLM h (by omega) (h1 m (by omega))
  refine⟨fun m hm=>?_,fun _=>hI⟩;obtain⟨m,rfl⟩:∃m',m=m'+1:=⟨m-1,by omega⟩;exact zT7 h (by omega) (h1 m (by omega)) (hI m (by omega))
theorem zNF{x:SPr}(h:Pres x){k:Nat}(hk:k≤x.zA.length):FAt x k f_a:=fun a b ha hb=>
 zAJ (2*(x.zA.length-k)+1) fun m hm=>(zEB h (x.zA.length-k) k (by omega)).1 m hm a b ha hb
theorem zLN{x:SPr}(h:Pres x){k:Nat}(hk:k<x.zA.length):FIm x k f_e:=fun v hv=>
 zAJ (2*(x.zA.length-k)) fun m hm=>(zEB h (x.zA.length-k) k (by omega)).2 (by omega) m hm v hv
end Go.Pl

namespace Go.Pl
open Go Go.Ab Go.Wk Go.Pc
theorem zBY:∀{P Q:Pcp},Q<:+P→vB P→vB Q
 | [],Q,h,_=>by have:=Jb5.1 h;subst this;simp only[vB]
 |l::P,Q,h,hc=>by
  rcases Jab.1 h with rfl|h
  ·exact hc
  ·exact zBY h hc.1
theorem zHR:∀{P Q:Pcp},Q<:+P→Pc.Ok P→Pc.Ok Q
 | [],Q,h,_=>by have:=Jb5.1 h;subst this;simp only[Pc.Ok]
 |l::P,Q,h,hc=>by
  rcases Jab.1 h with rfl|h
  ·exact hc
  ·exact zHR h hc.2.2.2.2
theorem zLO(x:SPr)(k:Nat):suf x (k+1)<:+suf x k:=by
 by_cases h:k<x.zA.length
 ·rw[yK h];exact Q3 _ _
 ·rw[vZ (by omega)];exact List.nil_suffix
theorem zDP{x:SPr}{k:Nat}(h:vB (suf x k)):∀i,vB (suf x (k+i))
 |0=>h
 |i+1=>zBY (zLO x (k+i)) (zDP h i)
theorem zG8{x:SPr}(h:Pres x){k:Nat}(hk:k≤x.zA.length)(hc:vB (suf x k)):Grp (V (suf x k)) (mul (suf x k)) (zeros (suf x k).length):=zN8 _ (h.okAt hk) hc
theorem zF2{x:SPr}:∀(i k:Nat)(v:Vec),k+i≤x.zA.length→V (suf x k) v→ ∃q v',v=q++v'∧q.length=i∧V (suf x (k+i)) v'∧
  ∀a b,V (suf x (k+i)) a→V (suf x (k+i)) b→mul (suf x k) (q++a) (zeros i++b)=q++mul (suf x (k+i)) a b
 |0,k,v,_,hv=>⟨[],v,rfl,rfl,hv,fun a b _ _=>rfl⟩
 |i+1,k,v,hk,hv=>by
  rw[yK (by omega)]at hv
  match v,hv with
  |e::v,hv=>
   obtain⟨q,v',h1,h2,h3,h4⟩:=zF2 i (k+1) v (by omega) hv.2;rw[show k+1+i=k+(i+1)from by omega]at h3 h4;refine⟨e::q,v',by rw[h1];rfl,by simp[h2],h3,fun a b ha hb=>?_⟩;have he:=hv.1;rw[yK (by omega)];show mul (lvl x k::suf x (k+1)) (e::(q++a)) (0::(zeros i++b))=_;rw[yU,U7,if_neg (by omega)];simp only[Hg,iter];rw[h4 a b ha hb];rfl
def FTV(x:SPr)(k:Nat)(g:SPr→List Int→List Int→Option (List Int)):Prop:=
 ∀p v u,p.length=k→V (suf x k) v→V (suf x k) u→g x (p++v) (zeros k++u)=some (p++mul (suf x k) v u)
def FTG(x:SPr)(k:Nat)(g:SPr→List Int→Int→Option (List Int)):Prop:=
 ∀p v,p.length=k→V (suf x k) v→g x (p++v) (k:Int)=some (p++mul (suf x k) v (1::zeros (x.zA.length-(k+1))))
theorem zHS{x:SPr}(h:Pres x){k:Nat}(hk:k<x.zA.length){g:SPr→List Int→List Int→Option (List Int)}(hg:FTV x (k+1) g){t:Vec}(ht:V (suf x (k+1)) t)
  {body1:List Int×Int→Int→List Int×Int→Option ((List Int×Int)⊕List Int)}{body2:List Int×Int→Option ((List Int×Int)⊕List Int)}
  (hb2:∀s,body2 s=cond (decide (s.2<(t.length:Int))) ((ixO t s.2).bind fun v17=>(zF (body1 s v17) (s.1,0)).bind fun r=>(rng (s.2+1)).bind fun v=>some (.inl (r,v))) (some (.inr s.1)))
  (hb1:∀s v q,body1 s v q=cond (decide (q.2<v)) ((ixO x.zB (k:Int)).bind fun cl=>(ixO cl s.2).bind fun c=>(g x q.1 c).bind fun r=>(rng (q.2+1)).bind fun w=>some (.inl (r,w))) (some (.inr q.1)))
  {p:Vec}(hp:p.length=k+1){u:Vec}(hu:V (suf x (k+1)) u):zF body2 (p++u,0)=some (p++img (mul (suf x (k+1))) (lvl x k).cs t u):=by
 have h6:=h.os.1;have ok:=h.okAt (k:=k+1) (by omega);have ok0:=h.okAt (k:=k) (by omega);rw[yK hk]at ok0;obtain⟨htl,htr⟩:=zDq h.os (x.zA.length-(k+1)) (k+1) t (by omega) ht;have hcl:(lvl x k).cs.length=x.zA.length-(k+1):=by rw[ok0.2.2.1,xM]
 have hA:∀i,V (suf x (k+1)) (img (mul (suf x (k+1))) ((lvl x k).cs.take i) (t.take i) u):=fun i=>
  qA (xP ok) _ _ (fun c hc=>ok0.2.2.2.1 c (Gl hc)) hu
 have:=zN (body:=body2) (r:=p++img (mul (suf x (k+1))) (lvl x k).cs t u) (fun i=>(p++img (mul (suf x (k+1))) ((lvl x k).cs.take i) (t.take i) u,(i:Int))) t.length (fun i hi=>by
  have hr:=htr i (by omega);obtain⟨c,c1,c2,c3,c4⟩:=zDO h hk (i:=i) (by omega);rw[hb2];simp only
  rw[yI hi,zH,yE hi,bs];rw[wT (S:=V (suf x (k+1))) (fun u=>p++u) (fun u=>mul (suf x (k+1)) u c) (at0 t i) hr.1 (fun u hu=>xP ok hu c3) (fun u q hu hq=>by
   rw[hb1];simp only
   rw[decide_eq_true hq,zH,c1,bs,c2,bs,hg p u c hp hu c3,bs,zD (by omega) (by omega),bs,cs]) (fun u hu=>by
   rw[hb1];simp only
   rw[decide_eq_false (by omega),zE]) (hA i),bs,zD (by omega) (by omega),bs,cs]
  rw[zAP _ _ _ _ (by omega) (by omega),c4]) (by
  rw[hb2];simp only
  rw[yS,zE,Je (by omega),Je (by omega)])
 simp only[Jx,img]at this;exact this
theorem zVg{p v:Vec}{a:Int}{k:Nat}(hp:p.length=k):ixO (p++a::v) (k:Int)=some a:=by rw[wU,J8 (by omega),hp,Kk];rfl
theorem p_set{p v:Vec}{a b:Int}{k:Nat}(hp:p.length=k):(p++a::v).set k b=p++b::v:=by rw[Hf _ _ (by omega),hp,Kk,Kq]
theorem zKl{x:SPr}(h:Pres x){k:Nat}(hk:k<x.zA.length)(hc:vB (suf x (k+1))){g:SPr→List Int→List Int→Option (List Int)}(hg:FTV x (k+1) g):FTG x k (b_b g):=by
 intro p v hp hv;have h6:=h.os.1;have G:=zG8 h (k:=k+1) (by omega) hc;have ok:=h.okAt (k:=k+1) (by omega);have ok0:=h.okAt (k:=k) (by omega);obtain⟨hvl,hvr⟩:=zDq h.os (x.zA.length-k) k v (by omega) hv;rw[yK hk]at hv ok0;obtain⟨e,t,rfl⟩:∃a0 a',v=a0::a':=by cases v with|nil=>simp at hvl;omega|cons p q=>exact⟨p,q,rfl⟩
 obtain⟨⟨e1,e2⟩,ht⟩:=hv;have hor:(lvl x k).o=at0 x.zA k:=rfl;rw[hor]at e2;have hpr:=(h.os.2 k hk).pos;have htl:=(zDq h.os (x.zA.length-(k+1)) (k+1) t (by omega) ht).1;have hsl:=xM x (k+1);unfold b_b;have hs:zQ (p++e::t) ((k+1:Nat):Int) ((p++e::t).length:Int)=some t:=by
  unfold zQ;rw[if_pos (by simp only[J6,Jh];omega)];have e3:(p++e::t).drop (k+1)=t:=by rw[Jbv,Ub (by omega),hp,show k+1-k=1 from by omega];rfl
  simp only[J7,e3,J6,Jh];rw[Je (by omega)]
 have hclone:f_x t=some t:=by unfold f_x;rw[yF (by simp;omega),bs,Jp]
 rw[zD (by omega) (by omega),bs,cs,hs,bs,hclone,bs];have hz:=zN (body:=zRZ k t) (r:=(p++[e])++zeros t.length) (fun i=>((p++[e])++(zeros i++t.drop i),(i:Int))) t.length (fun i hi=>by
  have hl:((p++[e])++zeros i).length=k+1+i:=by simp[zS,hp];omega
  unfold zRZ;simp only
  rw[yI hi,zH,zD (by omega) (by omega),bs,zD (by omega) (by omega),bs,show(k:Int)+1+(i:Int)=((k+1+i:Nat):Int)from by omega,wU,←Jc,J8 (by omega),hl,Kk,
   Lt hi,Ql,bs,zD (by omega) (by omega),bs,cs,J7,Hf _ _ (by omega),hl,Kk,Kq,zFf]
  simp only[Jc,Kh,Jp]) (by
  unfold zRZ;simp only
  rw[yS,zE,Jcu,J9])
 simp only[zeros,Hp,Hx,Jp,Jc,Lx]at hz;rw[show((0:Nat):Int)=0 from rfl]at hz;rw[hz,bs,J7,zVg hp,bs,zD (by omega) (by omega),bs,bs,p_set hp,zVg hp,bs,yE hk,bs];have hz2:J1 t.length (0:Int)=zeros (suf x (k+1)).length:=by rw[hsl,htl];rfl
 rw[yK hk,yU,hor];have hone:mul (suf x (k+1)) (iter (1:Int).toNat (sig (suf x (k+1)) (lvl x k)) t) (zeros (x.zA.length-(k+1)))=sig (suf x (k+1)) (lvl x k) t:=by rw[←hsl];show mul _ (sig (suf x (k+1)) (lvl x k) t) _=_;exact G.oner (zDo ok0 ht)
 rw[hone,hz2]
 by_cases heq:e+1=at0 x.zA k
 ·have t1:=(h.tl k hk).1
  have hw:=zHQ t1 hk;have hwl:=h.pl;have hp1:(p++[(0:Int)]).length=k+1:=by simp[hp]
  rw[show(e+1==at0 x.zA k)=true from by simpa using heq,zH,if_pos (by omega),bs,yC [] (by omega),bs,p_set hp];have hz3:p++0::zeros (suf x (k+1)).length=(p++[0])++zeros (suf x (k+1)).length:=by simp
  rw[hz3,zAO t1 hk,hg _ _ _ hp1 G.ein hw,bs,G.onel hw];rw[zHS (body1:=zW5 g x k) (body2:=zW6 g x k t) h hk hg ht (fun _=>rfl) (fun _ _ _=>rfl) hp1 hw,bs];rw[zDM G.toMon _ _ ok0.2.2.2.1 hw,show e+1-at0 x.zA k=0 from by omega];simp only[Jc,Lx];rfl
 ·have hp1:(p++[e+1]).length=k+1:=by simp[hp]
  rw[show(e+1==at0 x.zA k)=false from by simpa using heq,zE,if_neg (by omega)];have hz3:p++(e+1)::zeros (suf x (k+1)).length=(p++[e+1])++zeros (suf x (k+1)).length:=by simp
  rw[hz3,zHS (body1:=zW7 g x k) (body2:=zW8 g x k t) h hk hg ht (fun _=>rfl) (fun _ _ _=>rfl) hp1 G.ein,bs];simp only[Jc,Lx];rfl
theorem kH{n i:Nat}(h:i<n):wL n i=zeros i++1::zeros (n-(i+1)):=by
 have:zeros n=zeros i++0::zeros (n-(i+1)):=by
  simp only[zeros];rw[←Kj,Jm]
  congr 1;omega
 rw[wL,this,zCP]
theorem zDQ(n:Nat):(xS n).length=n:=by simp[xS]
theorem zG9{n i:Nat}(h:i<n):(xS n).getD i []=wL n i:=by simp[xS,J2,h]
theorem zQI{x:SPr}(h:Pres x){k:Nat}(hk:k≤x.zA.length)(hc:vB (suf x k)){g:SPr→List Int→Int→Option (List Int)}(hg:∀j,k≤j→j<x.zA.length→FTG x j g):FTV x k (b_c g):=by
 intro p v u hp hv hu;have h6:=h.os.1;have G:=zG8 h hk hc;have ok:=h.okAt hk;obtain⟨hul,hur⟩:=zDq h.os (x.zA.length-k) k u (by omega) hu;have hsl:=xM x k;have hV1:∀j,j≤x.zA.length→j<x.zA.length→V (suf x j) (1::zeros (x.zA.length-(j+1))):=fun j hj hj'=>by rw[yK hj'];have:=(h.os.2 j hj').pos;refine⟨⟨by omega,by show 1<at0 x.zA j;omega⟩,?_⟩;rw[←xM];exact wK (h.okAt (by omega))
 have hUn:∀i,i<x.zA.length-k→V (suf x k) (wL (x.zA.length-k) i):=fun i hi=>by
  rw[←hsl]at hi ⊢
  exact zDn ok hi
 have hUs:∀c∈xS (x.zA.length-k),V (suf x k) c:=fun c hc=>by simp only[xS,Jg,Lb]at hc;obtain⟨i,hi,rfl⟩:=hc;exact hUn i hi
 have hA:∀i,V (suf x k) (img (mul (suf x k)) ((xS (x.zA.length-k)).take i) (u.take i) v):=fun i=>
  qA (xP ok) _ _ (fun c hc=>hUs c (Gl hc)) hv
 have hgen:∀i w,i<x.zA.length-k→V (suf x k) w→g x (p++w) ((k+i:Nat):Int)=some (p++mul (suf x k) w (wL (x.zA.length-k) i)):=fun i w hi hw=>by obtain⟨q,w',h1,h2,h3,h4⟩:=zF2 i k w (by omega) hw;have h5:=hg (k+i) (by omega) (by omega) (p++q) w' (by simp[hp,h2]) h3;rw[Jc,←h1]at h5;rw[h5,kH hi,h1,show x.zA.length-k-(i+1)=x.zA.length-(k+i+1)from by omega,h4 w' _ h3 (hV1 (k+i) (by omega) (by omega)),Jc]
 unfold b_c;have hul2:(zeros k++u).length=x.zA.length:=by simp[zS];omega
 have:=zN (body:=zSb g x (zeros k++u)) (r:=p++mul (suf x k) v u) (fun j=>(p++img (mul (suf x k)) ((xS (x.zA.length-k)).take (j-k)) (u.take (j-k)) v,(j:Int))) x.zA.length (fun j hj=>by
  unfold zSb;simp only
  rw[hul2,yI hj,zH];rcases Jf j k with hjk|hjk
  ·have e0:ixO (zeros k++u) (j:Int)=some 0:=by
    rw[wU,Jo (by rw[zS];exact hjk)];simp[zeros,hjk]
   rw[e0,bs,show j-k=0 from by omega,show j+1-k=0 from by omega];rw[yL];unfold zSa;simp only
   rw[show decide ((0:Int)<0)=false from rfl,zE];simp only
   rw[bs,zD (by omega) (by omega),bs,cs]
  ·obtain⟨i,rfl⟩:∃i,j=k+i:=⟨j-k,by omega⟩
   have hi:i<x.zA.length-k:=by omega
   have hr:=hur i hi;rw[zKk (by omega),bs,show k+i-k=i from by omega,show k+i+1-k=i+1 from by omega];rw[wT (S:=V (suf x k)) (fun w=>p++w) (fun w=>mul (suf x k) w (wL (x.zA.length-k) i)) (at0 u i) hr.1 (fun w hw=>xP ok hw (hUn i hi)) (fun w q hw hq=>by
    unfold zSa;simp only
    rw[decide_eq_true hq,zH,hgen i w hi hw,bs,zD (by omega) (by omega),bs,cs]) (fun w hw=>by
    unfold zSa;simp only
    rw[decide_eq_false (by omega),zE]) (hA i),bs,zD (by omega) (by omega),bs,cs]
   rw[zAP _ _ _ _ (by rw[zDQ];exact hi) (by omega),zG9 hi]) (by
  unfold zSb;simp only
  rw[hul2,yS,zE,Je (by rw[zDQ];omega),Je (by omega),zDM G.toMon _ _ hUs hv];have hn:=normal (suf x k) ok (fun Q hQ=>(zN8 Q (zHR hQ ok) (zBY hQ hc)).toMon) u hu;rw[hsl]at hn ⊢
  rw[hn])
 simp only[Jc6,Jx,img]at this;rw[show((0:Nat):Int)=0 from rfl]at this;rw[this,bs]
theorem zEC{x:SPr}(h:Pres x):∀(d k:Nat),k+d=x.zA.length→vB (suf x k)→(∀m,2*d+1≤m→FTV x k (zOU m))
 |d,k,hk,hc=>fun m hm=>by
  obtain⟨m,rfl⟩:∃m',m=m'+1:=⟨m-1,by omega⟩;refine zQI h (by omega) hc fun j hj hjn=>?_
  obtain⟨m,rfl⟩:∃m',m=m'+1:=⟨m-1,by omega⟩;have hcj:vB (suf x (j+1)):=by
   have:=zDP hc (j+1-k)
   rwa [show k+(j+1-k)=j+1 from by omega]at this
  exact zKl h hjn hcj (zEC h (x.zA.length-(j+1)) (j+1) (by omega) hcj m (by omega))
 termination_by d=>d
 decreasing_by omega
theorem zT8{x:SPr}(h:Pres x){k:Nat}(hk:k≤x.zA.length)(hc:vB (suf x k)):FTV x k f_c:=fun p v u hp hv hu=>
 zAJ (2*(x.zA.length-k)+1) fun m hm=>zEC h (x.zA.length-k) k (by omega) hc m hm p v u hp hv hu
theorem zT9{x:SPr}(h:Pres x){k:Nat}(hk:k<x.zA.length)(hc:vB (suf x (k+1))):FTG x k f_b:=fun p v hp hv=>
 zAJ (2*(x.zA.length-k)) fun m hm=>by obtain⟨m,rfl⟩:∃m',m=m'+1:=⟨m-1,by omega⟩;exact zKl h hk hc (zEC h (x.zA.length-(k+1)) (k+1) (by omega) hc m (by omega)) p v hp hv
end Go.Pl

namespace Go.Pl
open Go Go.Ab Go.Wk Go.Pc
abbrev fv(k:Nat)(v:Vec):Vec:=zeros k++v
section
variable {x:SPr} (h:Pres x) {k:Nat} (hk:k≤x.zA.length) (hc:vB (suf x k))
 include h hk
theorem sS{v:Vec}(hv:V (suf x k) v):v.length=x.zA.length-k:=(zDq h.os (x.zA.length-k) k v (by omega) hv).1
theorem zBZ{v:Vec}(hv:V (suf x k) v):(fv k v).length=x.zA.length:=by rw[J6,zS,sS h hk hv];omega
theorem zNG:J1 x.zA.length (0:Int)=fv k (zeros (suf x k).length):=by
 have _:=h;rw[xM];simp only[fv,zeros,Jm];congr 1;omega
 include hc
theorem zLP{i:Nat}(hi:i<x.zA.length-k):V (suf x k) (wL (x.zA.length-k) i):=by
 have _:=hc;have:=xM x k;rw[←this]at hi ⊢
 exact zDn (h.okAt hk) hi
theorem zKm{p:Vec}(hp:p.length=k){i:Nat}(hi:i<x.zA.length-k){w:Vec}(hw:V (suf x k) w):f_b x (p++w) ((k+i:Nat):Int)=some (p++mul (suf x k) w (wL (x.zA.length-k) i)):=by
 obtain⟨q,w',h1,h2,h3,h4⟩:=zF2 i k w (by omega) hw;have hcj:vB (suf x (k+i+1)):=zDP hc (i+1);have h5:=zT9 h (k:=k+i) (by omega) hcj (p++q) w' (by simp[hp,h2]) h3;have h7:V (suf x (k+i)) (1::zeros (x.zA.length-(k+i+1))):=by
  have hj':k+i<x.zA.length:=by omega
  rw[yK hj'];have:=(h.os.2 (k+i) hj').pos;refine⟨⟨by omega,by show 1<at0 x.zA (k+i);omega⟩,?_⟩;rw[←xM];exact wK (h.okAt (by omega))
 rw[Jc,←h1]at h5;rw[h5,kH hi,h1,show x.zA.length-k-(i+1)=x.zA.length-(k+i+1)from by omega,h4 w' _ h3 h7,Jc]
theorem zGA{a b:Vec}(ha:V (suf x k) a)(hb:V (suf x k) b):f_c x (fv k a) (fv k b)=some (fv k (mul (suf x k) a b)):=
 zT8 h hk hc (zeros k) a b (zS k) ha hb
theorem zKn{a:Vec}(ha:V (suf x k) a):f_x (fv k a)=some (fv k a):=by have _:=hc;have:=zBZ h hk ha;have h6:=h.os.1;unfold f_x;rw[yF (by simp only[Lu];omega),bs,Jp]
theorem zCQ{a b:Vec}(ha:V (suf x k) a)(hb:V (suf x k) b):zSg x (fv k a) (fv k b)=some (fv k (mul (suf x k) a b)):=by unfold zSg;rw[zKn h hk hc ha,bs,zGA h hk hc ha hb,bs]
theorem zLQ{c:Vec}(hcv:V (suf x k) c){e:Int}(e0:0≤e)(e1:e≤1000):zUh x (fv k c) e=some (fv k (pw (mul (suf x k)) (zeros (suf x k).length) c e.toNat)):=by
 have h6:=h.os.1;have ok:=h.okAt hk;unfold zUh;rw[zBZ h hk hcv,yO (by omega),bs,zNG h hk];rw[wT (S:=V (suf x k)) (body:=zKT x (fv k c) e) (fun u=>fv k u) (fun u=>mul (suf x k) u c) e e0 (fun u hu=>xP ok hu hcv) (fun u i hu hi=>by
  unfold zKT;simp only
  rw[decide_eq_true hi,zH,zGA h hk hc hu hcv,bs,zD (by omega) (by omega),bs,cs]) (fun u hu=>by
  unfold zKT;simp only
  rw[decide_eq_false (by omega),zE]) (wK ok),bs]
 rfl
theorem zKo{v:Vec}(hv:V (suf x k) v):∃w,V (suf x k) w∧mul (suf x k) v w=zeros (suf x k).length∧f_J x (fv k v)=some (fv k w):=by
 have h6:=h.os.1;have ok:=h.okAt hk;have G:=zG8 h hk hc;have hvl:=zBZ h hk hv;have hsl:=xM x k;unfold f_J;rw[zKn h hk hc hv,bs,hvl,yO (by omega),bs,zNG h hk]
 let I:Nat→(List Int×List Int×Int)→Prop:=fun j s=> ∃A w,s=(fv k A,fv k w,(j:Int))∧V (suf x k) A∧V (suf x k) w∧mul (suf x k) v w=A∧ ∃A',A=zeros (j-k)++A'
 have key:=vT (body:=zSf x (fv k v)) (Q:=fun r=> ∃w,V (suf x k) w∧mul (suf x k) v w=zeros (suf x k).length∧r=fv k w) I x.zA.length (fun j s hj hI=>by
  obtain⟨A,w,rfl,hA,hw,hm,A',hA'⟩:=hI;left;unfold zSf;simp only
  rw[hvl,yI hj,zH];rcases Jf j k with hjk|hjk
  ·have e0:ixO (fv k A) (j:Int)=some 0:=by
    rw[wU,Jo (by rw[zS];exact hjk)];simp[zeros,hjk]
   rw[yL];unfold zOV;simp only
   rw[e0,bs,show((0:Int) != 0)=false from rfl,zE];simp only
   rw[bs,zD (by omega) (by omega),bs,cs];exact⟨_,rfl,A,w,rfl,hA,hw,hm,A,by rw[show j+1-k=0 from by omega];rfl⟩
  ·obtain⟨i,rfl⟩:∃i,j=k+i:=⟨j-k,by omega⟩
   have hi:i<x.zA.length-k:=by omega
   rw[show k+i-k=i from by omega]at hA';have hAl:=sS h hk hA;obtain⟨a0,A',rfl⟩:∃p q,A'=p::q:=by
    cases A' with
    |nil=>rw[hA',J6,zS,Lu]at hAl;omega
    |cons p q=>exact⟨p,q,rfl⟩
   have hpr:=(h.os.2 (k+i) hj).pos;have inner:=vT (body:=zOV x (fv k A,fv k w,((k+i:Nat):Int))) (s:=(fv k A,fv k w))
    (Q:=fun r=> ∃B u,r=(fv k B,fv k u)∧V (suf x k) B∧V (suf x k) u∧mul (suf x k) v u=B∧ ∃B',B=zeros (i+1)++B')
    (fun q s=> ∃B u b B',s=(fv k B,fv k u)∧V (suf x k) B∧V (suf x k) u∧mul (suf x k) v u=B∧B=zeros i++b::B'∧(b=0∨b=a0+q)) 10 (fun q s hq hs=>by
     obtain⟨B,u,b,B',rfl,hB,hu,hmu,hB',hb⟩:=hs;have hz:ixO (fv k B) ((k+i:Nat):Int)=some b:=by rw[fv,zKk (by rw[sS h hk hB];exact hi),hB',at0,J2,J8 (by rw[zS];omega),zS,Kk];rfl
     unfold zOV;simp only
     rw[hz,bs]
     by_cases hb0:b=0
     ·subst hb0
      right;rw[show((0:Int) != 0)=false from rfl,zE];exact⟨_,rfl,B,u,rfl,hB,hu,hmu,B',by rw[hB',zBq]⟩
     ·left
      have hbq:b=a0+q:=by rcases hb with hb|hb;exact absurd hb hb0;exact hb
      rw[show(b != 0)=true from by simpa using hb0,zH,zKm h hk hc (zS k) hi hB,bs,zKm h hk hc (zS k) hi hu,bs];have hU:=zLP h hk hc hi;obtain⟨q',v',h1,h2,h3,h4⟩:=zF2 i k B (by omega) hB;have hqv:q'=zeros i∧v'=b::B':=by rw[hB']at h1;have:=List.append_inj h1 (by rw[zS,h2]);exact⟨this.1.symm,this.2.symm⟩
      obtain⟨rfl,rfl⟩:=hqv;have h7:V (suf x (k+i)) (1::zeros (x.zA.length-(k+i+1))):=by rw[yK hj];refine⟨⟨by omega,by show 1<at0 x.zA (k+i);omega⟩,?_⟩;rw[←xM];exact wK (h.okAt (by omega))
      have h8:=h4 (b::B') _ h3 h7;rw[show x.zA.length-(k+i+1)=x.zA.length-k-(i+1)from by omega,←kH hi,←h1,yK hj,yU]at h8;refine⟨_,rfl,mul (suf x k) B (wL (x.zA.length-k) i),mul (suf x k) u (wL (x.zA.length-k) i),?_⟩;have hor:(lvl x (k+i)).o=at0 x.zA (k+i):=rfl;rw[hor]at h8
      by_cases hge:b+1≥at0 x.zA (k+i)
      ·rw[if_pos hge]at h8
       refine⟨_,_,rfl,xP ok hB hU,xP ok hu hU,?_,h8,?_⟩
       ·rw[←G.assoc hv hu hU,hmu]
       ·left
        rw[yK hj]at h3;have:=h3.1.2;rw[hor]at this;omega
      ·rw[if_neg hge]at h8
       refine⟨_,_,rfl,xP ok hB hU,xP ok hu hU,?_,h8,?_⟩
       ·rw[←G.assoc hv hu hU,hmu]
       ·right;omega) (fun s hs=>by
     obtain⟨B,u,b,B',rfl,hB,hu,hmu,hB',hb⟩:=hs;have hz:ixO (fv k B) ((k+i:Nat):Int)=some b:=by rw[fv,zKk (by rw[sS h hk hB];exact hi),hB',at0,J2,J8 (by rw[zS];omega),zS,Kk];rfl
     have hbr:=(zDq h.os (x.zA.length-k) k B (by omega) hB).2 i hi;have ha:=(zDq h.os (x.zA.length-k) k A (by omega) hA).2 i hi;have e1:at0 B i=b:=by rw[hB',at0,J2,J8 (by rw[zS];omega),zS,Kk];rfl
     have e2:at0 A i=a0:=by rw[hA',at0,J2,J8 (by rw[zS];omega),zS,Kk];rfl
     have hb0:b=0:=by omega
     subst hb0;unfold zOV;simp only
     rw[hz,bs,show((0:Int) != 0)=false from rfl,zE];exact⟨_,rfl,B,u,rfl,hB,hu,hmu,B',by rw[hB',zBq]⟩) ⟨A,w,a0,A',rfl,hA,hw,hm,hA',.inr (by omega)⟩
   obtain⟨r,r1,B,u,rfl,hB,hu,hmu,B',hB'⟩:=inner;rw[r1,bs,zD (by omega) (by omega),bs,cs];exact⟨_,rfl,B,u,rfl,hB,hu,hmu,B',by rw[hB',show k+i+1-k=i+1 from by omega]⟩) (fun s hI=>by
  obtain⟨A,w,rfl,hA,hw,hm,A',hA'⟩:=hI;unfold zSf;simp only
  rw[hvl,yS,zE];refine⟨_,rfl,w,hw,?_,rfl⟩;have hAl:=sS h hk hA;rw[hA',J6,zS]at hAl;rw[hm,hA',Jw (l:=A') (by omega),J9,hsl]) (s:=(fv k v,fv k (zeros (suf x k).length),0))
  ⟨v,_,rfl,hv,wK ok,G.oner hv,v,by rw[Jc6];rfl⟩
 obtain⟨r,r1,w,hw,hm,rfl⟩:=key;rw[r1,bs];exact⟨w,hw,hm,rfl⟩
theorem zCa{a b:Vec}(ha:V (suf x k) a)(hb:V (suf x k) b):∃c,V (suf x k) c∧mul (suf x k) b c=mul (suf x k) a b∧zSh x (fv k a) (fv k b)=some (fv k c):=by
 have ok:=h.okAt hk;have G:=zG8 h hk hc;obtain⟨w,hw,hm,h1⟩:=zKo h hk hc hb;have hab:=xP ok ha hb;refine⟨mul (suf x k) w (mul (suf x k) a b),xP ok hw hab,?_,?_⟩
 ·rw[←G.assoc hb hw hab,hm,G.onel hab]
 ·unfold zSh
  rw[h1,bs,zCQ h hk hc ha hb,bs,zCQ h hk hc hw hab,bs]
end
theorem zDr{a b:List Int}(h:a.length≤1000000):f_X a b=some (a==b):=
 zHO (t:=fun u v=>some (u==v)) (body:=zW9 a b) rfl (fun _=>rfl) (by omega) fun _ _ _ _=>rfl
theorem zO2{a b:List Int}(h:a.length≤1000000):zJn a b=some (a==b):=zDr h
end Go.Pl

namespace Go.Pl
open Go Go.Ab Go.Wk Go.Pc
theorem zKp{ρ:Type}{body:Int→Option (Int⊕(Unit⊕ρ))}(n i0:Nat)(hn:i0≤n)(P:Nat→Prop)(B:ρ→Prop)
  (h:∀i,i0≤i→i<n→(∀j,i0≤j→j<i→P j)→(body (i:Int)=some (.inl ((i+1:Nat):Int))∧P i)∨(∃r,body (i:Int)=some (.inr (.inr r))∧B r∧ ¬P i))
  (he:body (n:Int)=some (.inr (.inl ()))):
  (zF body (i0:Int)=some (.inl ())∧ ∀j,i0≤j→j<n→P j)∨ ∃r i,i0≤i∧i<n∧zF body (i0:Int)=some (.inr r)∧B r∧ ¬P i:=by
 have key:∀k i,i0≤i→i+k=n→(∀j,i0≤j→j<i→P j)→(zF body (i:Int)=some (.inl ())∧ ∀j,i0≤j→j<n→P j)∨ ∃r q,i0≤q∧q<n∧zF body (i:Int)=some (.inr r)∧B r∧ ¬P q:=by
  intro k
  induction k with
  |zero=>
   intro i hi hk hp;obtain rfl:i=n:=by omega
   exact .inl ⟨by rw[yL,he],hp⟩
  |succ k ih=>
   intro i hi hk hp;rcases h i hi (by omega) hp with⟨h1,h2⟩|⟨r,h1,h2,h3⟩
   ·have:=ih (i+1) (by omega) (by omega) fun j a b=>by
     rcases Jf j i with c|c
     ·exact hp j a c
     ·rw[show j=i from by omega];exact h2
    rw[yL,h1];exact this
   ·exact .inr ⟨r,i,hi,by omega,by rw[yL,h1],h2,h3⟩
 exact key (n-i0) i0 (Ji _) (by omega) fun j a b=>by omega
theorem zGB{σ ρ:Type}{body:σ→Option (σ⊕ρ)}{Q:ρ→Prop}(I:σ→Prop)(m:σ→Nat)
  (h:∀s,I s→(∃s',body s=some (.inl s')∧I s'∧m s'<m s)∨ ∃r,body s=some (.inr r)∧Q r):∀(k:Nat)(s:σ),m s≤k→I s→ ∃r,zF body s=some r∧Q r
 |k,s,hk,hs=>by
  rcases h s hs with⟨s',h1,h2,h3⟩|⟨r,h1,h2⟩
  ·cases k with
   |zero=>omega
   |succ k=>
    obtain⟨r,h4,h5⟩:=zGB I m h k s' (by omega) h2;exact⟨r,by rw[yL,h1];exact h4,h5⟩
  ·exact⟨r,by rw[yL,h1],h2⟩
theorem zWa{k:Nat}{a b:Vec}:(fv k a==fv k b)=true↔a=b:=by rw[beq_iff_eq];exact⟨fun h=>List.append_cancel_left h,fun h=>by rw[h]⟩
theorem zCb{x:SPr}{v:List Int}{i k:Nat}(h:Exp x.zA v i)(hk:k≤i+1)(hn:k≤x.zA.length):v=fv k (v.drop k)∧V (suf x k) (v.drop k):=by
 have h1:=h.1.1;constructor
 ·apply La
  intro j;rw[fv,Kz];simp only[zeros,Jy,Ki,Ko];split
  ·rename_i hj
   have h2:=h.2 j (by omega);rw[J3 (by omega)];rw[at0,J2,J3 (by omega)]at h2;simpa using h2
  ·rw[show k+(j-k)=j from by omega]
 ·refine zVZ (x.zA.length-k) k _ (by omega) (by rw[K8];omega) fun j hj=>?_
  have:=h.1.2 (k+j) (by omega);have e:at0 (v.drop k) j=at0 v (k+j):=by simp only[at0,J2,Ko]
  rw[e];exact this
structure LC (x:SPr) (k:Nat):Prop where
 c1:∀j,k+1≤j→j<x.zA.length→pw (mul (suf x (k+1))) (zeros (suf x (k+1)).length) ((lvl x k).cs.getD (j-(k+1)) []) (at0 x.zA j).toNat=sig (suf x (k+1)) (lvl x k) ((x.zT.getD j []).drop (k+1))
 c2:∀i,k+1≤i→i<x.zA.length→ ∀j,i+1≤j→j<x.zA.length→
  mul (suf x (k+1)) ((lvl x k).cs.getD (j-(k+1)) []) ((lvl x k).cs.getD (i-(k+1)) [])=mul (suf x (k+1)) ((lvl x k).cs.getD (i-(k+1)) []) (sig (suf x (k+1)) (lvl x k) (((x.zB.getD i []).getD (j-(i+1)) []).drop (k+1)))
 c3:sig (suf x (k+1)) (lvl x k) (lvl x k).w=(lvl x k).w
 c4:∀j,k+1≤j→j<x.zA.length→mul (suf x (k+1)) (lvl x k).w (iter (lvl x k).o.toNat (sig (suf x (k+1)) (lvl x k)) (wL (x.zA.length-(k+1)) (j-(k+1))))=mul (suf x (k+1)) (wL (x.zA.length-(k+1)) (j-(k+1))) (lvl x k).w
section
variable {x:SPr} (h:Pres x) {k:Nat} (hk:k<x.zA.length) (hc:vB (suf x (k+1)))
 include h hk
theorem jL{j:Nat}(h1:k+1≤j)(h2:j<x.zA.length):ixO x.zB (k:Int)=some (x.zB.getD k [])∧ixO (x.zB.getD k []) ((j:Int)-(k:Int)-1)=some (fv (k+1) ((lvl x k).cs.getD (j-(k+1)) []))∧V (suf x (k+1)) ((lvl x k).cs.getD (j-(k+1)) []):=by obtain⟨c,c1,c2,c3,c4⟩:=zDO h hk (i:=j-(k+1)) (by omega);rw[c4];refine⟨c1,?_,c3⟩;rw[show(j:Int)-(k:Int)-1=((j-(k+1):Nat):Int)from by omega];exact c2
theorem zQJ{j:Nat}(h1:k+1≤j)(h2:j<x.zA.length):ixO x.zT (j:Int)=some (fv (k+1) ((x.zT.getD j []).drop (k+1)))∧V (suf x (k+1)) ((x.zT.getD j []).drop (k+1)):=by have t1:=(h.tl j h2).1;have hl:=h.pl;obtain⟨e1,e2⟩:=zCb (k:=k+1) t1 (by omega) (by omega);exact⟨by rw[yC [] (by omega),←e1],e2⟩
theorem zQK{i j:Nat}(h1:k+1≤i)(h2:i+1≤j)(h3:j<x.zA.length):ixO x.zB (i:Int)=some (x.zB.getD i [])∧ixO (x.zB.getD i []) ((j:Int)-(i:Int)-1)=some (fv (k+1) (((x.zB.getD i []).getD (j-(i+1)) []).drop (k+1)))∧V (suf x (k+1)) (((x.zB.getD i []).getD (j-(i+1)) []).drop (k+1)):=by obtain⟨_,t2,t3⟩:=h.tl i (by omega);have hl:=h.cl;obtain⟨e1,e2⟩:=zCb (k:=k+1) (t3 (j-(i+1)) (by omega)) (by omega) (by omega);refine⟨yC [] (by omega),?_,e2⟩;rw[show(j:Int)-(i:Int)-1=((j-(i+1):Nat):Int)from by omega,yC [] (by omega),←e1]
theorem zWb:ixO x.zT (k:Int)=some (fv (k+1) (lvl x k).w)∧V (suf x (k+1)) (lvl x k).w:=by have t1:=(h.tl k hk).1;have hl:=h.pl;obtain⟨e1,e2⟩:=zCb (k:=k+1) t1 (by omega) (by omega);exact⟨by rw[yC [] (by omega)];exact congrArg some e1,e2⟩
theorem zVh{v:Vec}(hv:V (suf x (k+1)) v):V (suf x (k+1)) (sig (suf x (k+1)) (lvl x k) v):=by have ok0:=h.okAt (k:=k) (by omega);rw[yK hk]at ok0;exact zDo ok0 hv
theorem zHT{j:Nat}(h1:k+1≤j)(h2:j<x.zA.length):zJo (x.zA.length:Int) (j:Int)=some (fv (k+1) (wL (x.zA.length-(k+1)) (j-(k+1)))):=by
 have h6:=h.os.1;unfold zJo;rw[yO (by omega),bs,wU,Ki,if_pos h2,bs,J7]
 congr 1
 rw[fv,kH (by omega),←Jc];have e1:zeros (k+1)++zeros (j-(k+1))=zeros j:=by simp only[zeros,Jm];congr 1;omega
 have e2:J1 x.zA.length (0:Int)=zeros j++0::zeros (x.zA.length-(j+1)):=by simp only[zeros];rw[←Kj,Jm];congr 1;omega
 rw[e1,e2,zCP,show x.zA.length-(k+1)-(j-(k+1)+1)=x.zA.length-(j+1)from by omega]
theorem zO3{j:Nat}(h1:k+1≤j)(h2:j<x.zA.length):zW2 (x.zA.length:Int) (j:Int)=some (fv (k+1) (wL (x.zA.length-(k+1)) (j-(k+1)))):=zHT h hk h1 h2
 include hc
theorem kI{v:Vec}(hv:V (suf x (k+1)) v):f_D x k (fv (k+1) v)=some (fv (k+1) (sig (suf x (k+1)) (lvl x k) v)):=by
 have h6:=h.os.1;have ok:=h.okAt (k:=k+1) (by omega);have ok0:=h.okAt (k:=k) (by omega);rw[yK hk]at ok0;obtain⟨hvl,hvr⟩:=zDq h.os (x.zA.length-(k+1)) (k+1) v (by omega) hv;have hcl:(lvl x k).cs.length=x.zA.length-(k+1):=by rw[ok0.2.2.1,xM]
 have t2:=(h.tl k hk).2.1;have hcl2:=h.cl;have hA:∀i,V (suf x (k+1)) (img (mul (suf x (k+1))) ((lvl x k).cs.take i) (v.take i) (zeros (suf x (k+1)).length)):=fun i=>
  qA (xP ok) _ _ (fun c hc=>ok0.2.2.2.1 c (Gl hc)) (wK ok)
 unfold f_D;rw[zBZ h (by omega) hv,yO (by omega),bs,yC [] (by omega),bs,zNG h (k:=k+1) (by omega)];have:=zN (body:=zSe x k (fv (k+1) v) (x.zB.getD k [])) (r:=fv (k+1) (sig (suf x (k+1)) (lvl x k) v))
  (fun i=>(fv (k+1) (img (mul (suf x (k+1))) ((lvl x k).cs.take i) (v.take i) (zeros (suf x (k+1)).length)),(i:Int))) (x.zB.getD k []).length (fun i hi=>by
  have hr:=hvr i (by omega);obtain⟨c,c1,c2,c3,c4⟩:=zDO h hk (i:=i) (by omega);unfold zSe;simp only
  rw[yI hi,zH,c2,bs,zD (by omega) (by omega),bs,zD (by omega) (by omega),bs,show(k:Int)+1+(i:Int)=((k+1+i:Nat):Int)from by omega,fv,zKk (by omega),bs];rw[wT (S:=V (suf x (k+1))) (body:=zSd x (zeros (k+1)++c) (at0 v i)) (fun u=>fv (k+1) u) (fun u=>mul (suf x (k+1)) u c) (at0 v i) hr.1 (fun u hu=>xP ok hu c3) (fun u q hu hq=>by
   unfold zSd;simp only
   rw[decide_eq_true hq,zH,zGA h (by omega) hc hu c3,bs,zD (by omega) (by omega),bs,cs]) (fun u hu=>by
   unfold zSd;simp only
   rw[decide_eq_false (by omega),zE]) (hA i),bs,zD (by omega) (by omega),bs,cs]
  rw[zAP _ _ _ _ (by omega) (by omega),c4]) (by
  unfold zSe;simp only
  rw[yS,zE,Je (by omega),Je (by omega)];rfl)
 simp only[Jx,img]at this;rw[show((0:Nat):Int)=0 from rfl]at this;rw[this,bs]
theorem zCc{a b:Vec}(ha:V (suf x (k+1)) a):IsB (f_X (fv (k+1) a) (fv (k+1) b)) (a=b):=by have _:=hc;have h6:=h.os.1;rw[zDr (by rw[zBZ h (by omega) ha];omega)];exact IsB.of_bool zWa
theorem zKq{c:Vec}(hcv:V (suf x (k+1)) c){e:Int}(e0:0≤e)(e1:e≤1000):zUb x ((k+1:Nat):Int) (fv (k+1) c) e=some (fv (k+1) (pw (mul (suf x (k+1))) (zeros (suf x (k+1)).length) c e.toNat)):=by
 have h6:=h.os.1;have ok:=h.okAt (k:=k+1) (by omega);have G:=zG8 h (k:=k+1) (by omega) hc;have hA:=zNF h (k:=k+1) (by omega);have pwV:∀a,V (suf x (k+1)) (pw (mul (suf x (k+1))) (zeros (suf x (k+1)).length) c a):=fun a=>uR G.toMon hcv a
 unfold zUb;rw[yO (by omega),bs,zNG h (k:=k+1) (by omega)];obtain⟨r,r1,r2⟩:=zGB (body:=zOb x ((k+1:Nat):Int)) (Q:=fun r=>r=fv (k+1) (pw (mul (suf x (k+1))) (zeros (suf x (k+1)).length) c e.toNat))
  (fun s=> ∃(m a q:Nat),s=((m:Int),fv (k+1) (pw (mul (suf x (k+1))) (zeros (suf x (k+1)).length) c a),fv (k+1) (pw (mul (suf x (k+1))) (zeros (suf x (k+1)).length) c q))∧a+q*m=e.toNat∧m≤1000) (fun s=>s.1.toNat) (fun s ⟨m,a,q,hs,he,hm⟩=>by
   subst hs;unfold zOb;simp only
   by_cases hm0:m=0
   ·right
    subst hm0;rw[show decide (((0:Nat):Int)> 0)=false from rfl,zE];refine⟨_,rfl,?_⟩;rw[←he,Nat.mul_zero];rfl
   ·left
    have hr:vF (m:Int) 2=some ((m%2:Nat):Int):=by unfold vF;rw[if_neg (by decide),Lj (by omega)];rfl
    have hq:vR (m:Int) 2=some ((m/2:Nat):Int):=by unfold vR;rw[if_neg (by decide),Int.tdiv_eq_ediv_of_nonneg (by omega)];rw[zD (by omega) (by omega)];rfl
    have hdm:=Jar m 2;have hqq:mul (suf x (k+1)) (pw (mul (suf x (k+1))) (zeros (suf x (k+1)).length) c q) (pw (mul (suf x (k+1))) (zeros (suf x (k+1)).length) c q)=pw (mul (suf x (k+1))) (zeros (suf x (k+1)).length) c (q+q):=(zGx G.toMon hcv q q).symm;rw[decide_eq_true (by omega),zH,hr,bs];rcases Nat.mod_two_eq_zero_or_one m with h2|h2
    ·rw[h2,show((((0:Nat):Int))==1)=false from rfl,zE,hA _ _ (pwV q) (pwV q),bs,hq,bs,hqq]
     refine⟨_,rfl,⟨m/2,a,q+q,rfl,?_,by omega⟩,by simp only;omega⟩;rw[←he];have:m=m/2+m/2:=by omega
     have e3:(q+q)*(m/2)=q*m:=by rw[Ux,←Jai,←this]
     omega
    ·rw[h2,show((((1:Nat):Int))==1)=true from rfl,zH,hA _ _ (pwV a) (pwV q),bs,hA _ _ (pwV q) (pwV q),bs,hq,bs,hqq,←zGx G.toMon hcv a q]
     refine⟨_,rfl,⟨m/2,a+q,q+q,rfl,?_,by omega⟩,by simp only;omega⟩;rw[←he];have:m=m/2+m/2+1:=by omega
     have e3:(q+q)*(m/2)+q=q*m:=by
      have e4:q*m=q*(m/2+m/2+1):=by rw[←this]
      rw[e4,Jai,Jai,Uv,Ux]
     omega) 1000000 (e,fv (k+1) (zeros (suf x (k+1)).length),fv (k+1) c) (by simp only;omega) ⟨e.toNat,0,1,by rw[zQ8 G.toMon hcv,show((e.toNat:Nat):Int)=e from by omega];rfl,by omega,by omega⟩
 rw[r1,bs,r2]
end
end Go.Pl

namespace Go.Pl
open Go Go.Ab Go.Wk Go.Pc
def zYf(o:Option yV)(P:Prop):Prop:=(o=some (yV.mk 0 0 0 0)∧P)∨ ∃r,o=some r∧r.Kind≠0∧ ¬P
theorem kb{a b c d:Int}(h:a≠0):(yV.mk a b c d).Kind≠0:=h
abbrev KB(r:yV):Prop:=r.Kind≠0
theorem zAQ{o:Option Bool}{P:Prop}{bad:yV}{i:Nat}{g:Option (Int⊕(Unit⊕yV))}(h:IsB o P)(hi:i<9223372036854775807)(hbad:bad.Kind≠0)
  (hg:g=o.bind fun r=>cond (!r) (some (.inr (.inr bad))) ((rng ((i:Int)+1)).bind fun v=>some (.inl v))):(g=some (.inl ((i+1:Nat):Int))∧P)∨(∃r,g=some (.inr (.inr r))∧KB r∧ ¬P):=by
 rcases vV h hi hg with h|⟨h1,h2⟩
 ·exact .inl h
 ·exact .inr ⟨bad,h1,hbad,h2⟩
section
variable {x:SPr} (h:Pres x) {k:Nat} (hk:k<x.zA.length) (hc:vB (suf x (k+1)))
 include h hk hc
theorem zGC:zYf (f_k x k) (LC x k):=by
 have h6:=h.os.1;have ok:=h.okAt (k:=k+1) (by omega);have G:=zG8 h (k:=k+1) (by omega) hc;obtain⟨w1,w2⟩:=zWb h hk;have hsV:∀v,V (suf x (k+1)) v→V (suf x (k+1)) (sig (suf x (k+1)) (lvl x k) v):=fun v hv=>zVh h hk hv
 unfold f_k;rw[zD (by omega) (by omega),bs,cs];rcases zKp (body:=zSi x k) x.zA.length (k+1) (by omega) (fun j=>pw (mul (suf x (k+1))) (zeros (suf x (k+1)).length) ((lvl x k).cs.getD (j-(k+1)) []) (at0 x.zA j).toNat=sig (suf x (k+1)) (lvl x k) ((x.zT.getD j []).drop (k+1))) KB (fun j h1 h2 _=>by
   obtain⟨c1,c2,c3⟩:=jL h hk h1 h2;obtain⟨p1,p2⟩:=zQJ h hk h1 h2;have hpr:=(h.os.2 j h2).pos;refine zAQ (zCc h hk hc (uR G.toMon c3 (at0 x.zA j).toNat)) (by omega) (bad:=yV.mk 1 k j 0) (kb (by decide)) ?_;unfold zSi;rw[yI h2,zH,c1,bs,zD (by omega) (by omega),bs,zD (by omega) (by omega),bs,c2,bs,yE h2,bs,zLQ h (by omega) hc c3 (by omega) (by omega),bs,p1,bs,kI h hk hc p2,bs]) (by
   unfold zSi;rw[yS,zE])with⟨g1,g2⟩|⟨r,j,j1,j2,g1,g2,g3⟩
 rotate_left
 ·rw[g1,bs]
  exact .inr ⟨r,rfl,g2,fun q=>g3 (q.c1 j j1 j2)⟩
 rw[g1,bs];simp only
 rw[bs];rcases zKp (body:=zSk x k) x.zA.length (k+1) (by omega) (fun i=> ∀j,i+1≤j→j<x.zA.length→
   mul (suf x (k+1)) ((lvl x k).cs.getD (j-(k+1)) []) ((lvl x k).cs.getD (i-(k+1)) [])=mul (suf x (k+1)) ((lvl x k).cs.getD (i-(k+1)) []) (sig (suf x (k+1)) (lvl x k) (((x.zB.getD i []).getD (j-(i+1)) []).drop (k+1)))) KB (fun i h1 h2 _=>by
   obtain⟨c1,c2,c3⟩:=jL h hk h1 h2;unfold zSk;rw[yI h2,zH,zD (by omega) (by omega),bs,cs];rcases zKp (body:=zSj x k i) x.zA.length (i+1) (by omega) (fun j=>mul (suf x (k+1)) ((lvl x k).cs.getD (j-(k+1)) []) ((lvl x k).cs.getD (i-(k+1)) [])=mul (suf x (k+1)) ((lvl x k).cs.getD (i-(k+1)) []) (sig (suf x (k+1)) (lvl x k) (((x.zB.getD i []).getD (j-(i+1)) []).drop (k+1)))) KB (fun j h3 h4 _=>by
     obtain⟨d1,d2,d3⟩:=jL h hk (j:=j) (by omega) h4;obtain⟨e1,e2,e3⟩:=zQK h hk h1 h3 h4;obtain⟨q,q1,q2,q3⟩:=zCa h (by omega) hc d3 c3;refine zAQ ((zCc h hk hc (b:=sig (suf x (k+1)) (lvl x k) (((x.zB.getD i []).getD (j-(i+1)) []).drop (k+1))) q1).iff (Q:=mul (suf x (k+1)) ((lvl x k).cs.getD (j-(k+1)) []) ((lvl x k).cs.getD (i-(k+1)) [])=mul (suf x (k+1)) ((lvl x k).cs.getD (i-(k+1)) []) (sig (suf x (k+1)) (lvl x k) (((x.zB.getD i []).getD (j-(i+1)) []).drop (k+1)))) ?_) (by omega) (bad:=yV.mk 2 k i j) (kb (by decide)) ?_
     ·exact⟨fun e=>by rw[←q2,e],fun e=>G.cancel_l c3 q1 (hsV _ e3) (by rw[q2,e])⟩
     ·unfold zSj
      rw[yI h4,zH,d1,bs,zD (by omega) (by omega),bs,zD (by omega) (by omega),bs,d2,bs,bs,zD (by omega) (by omega),bs,zD (by omega) (by omega),bs,c2,bs,q3,bs,e1,bs,zD (by omega) (by omega),bs,zD (by omega) (by omega),bs,e2,bs,kI h hk hc e3,bs]) (by
     unfold zSj;rw[yS,zE])with⟨g1,g2⟩|⟨r,j,j1,j2,g1,g2,g3⟩
   ·left
    rw[g1,bs];exact⟨rfl,g2⟩
   ·right
    rw[g1,bs];exact⟨r,rfl,g2,fun q=>g3 (q j j1 j2)⟩) (by
   unfold zSk;rw[yS,zE])with⟨k1,k2⟩|⟨r,j,j1,j2,k1,k2,k3⟩
 rotate_left
 ·rw[k1,bs]
  exact .inr ⟨r,rfl,k2,fun q=>k3 (q.c2 j j1 j2)⟩
 rw[k1,bs];simp only
 rw[w1,bs,kI h hk hc w2,bs];rcases zCc h hk hc (b:=(lvl x k).w) (hsV _ w2)with⟨m1,m2⟩|⟨m1,m2⟩
 rotate_left
 ·rw[m1,bs,Js,zH]
  exact .inr ⟨_,rfl,kb (by decide),fun q=>m2 q.c3⟩
 rw[m1,bs,Jj,zE,bs];rcases zKp (body:=zSm x k (fv (k+1) (lvl x k).w)) x.zA.length (k+1) (by omega) (fun j=>mul (suf x (k+1)) (lvl x k).w (iter (lvl x k).o.toNat (sig (suf x (k+1)) (lvl x k)) (wL (x.zA.length-(k+1)) (j-(k+1))))=mul (suf x (k+1)) (wL (x.zA.length-(k+1)) (j-(k+1))) (lvl x k).w) KB (fun j h1 h2 _=>by
   have hU:=zLP h (k:=k+1) (by omega) hc (i:=j-(k+1)) (by omega);have hpr:=(h.os.2 k hk).pos;obtain⟨q,q1,q2,q3⟩:=zCa h (k:=k+1) (by omega) hc hU w2;have hit:V (suf x (k+1)) (iter (lvl x k).o.toNat (sig (suf x (k+1)) (lvl x k)) (wL (x.zA.length-(k+1)) (j-(k+1)))):=vD hsV _ hU;refine zAQ ((zCc h hk hc (b:=q) hit).iff ⟨fun e=>by rw[e,q2],fun e=>G.cancel_l w2 hit q1 (by rw[e,q2])⟩) (by omega) (bad:=yV.mk 4 k j 0) (kb (by decide)) ?_;unfold zSm;rw[yI h2,zH,zHT h hk h1 h2,bs,yE hk,bs];rw[wT (S:=V (suf x (k+1))) (body:=zSl x k (at0 x.zA k)) (fun u=>fv (k+1) u) (sig (suf x (k+1)) (lvl x k)) (at0 x.zA k) (by omega) hsV (fun u i hu hi=>by
    unfold zSl;simp only
    rw[decide_eq_true hi,zH,kI h hk hc hu,bs,zD (by omega) (by omega),bs,cs]) (fun u hu=>by
    unfold zSl;simp only
    rw[decide_eq_false (by omega),zE]) hU,bs,bs,q3,bs]
   rfl) (by
   unfold zSm;rw[yS,zE])with⟨n1,n2⟩|⟨r,j,j1,j2,n1,n2,n3⟩
 ·rw[n1,bs]
  exact .inl ⟨rfl,⟨g2,k2,m2,n2⟩⟩
 ·rw[n1,bs]
  exact .inr ⟨r,rfl,n2,fun q=>n3 (q.c4 j j1 j2)⟩
theorem zLR:zYf (f_l x k) (LC x k):=by
 have h6:=h.os.1;have ok:=h.okAt (k:=k+1) (by omega);have G:=zG8 h (k:=k+1) (by omega) hc;obtain⟨w1,w2⟩:=zWb h hk;have hA:=zNF h (k:=k+1) (by omega);have hI:=zLN h hk;have hsV:∀v,V (suf x (k+1)) v→V (suf x (k+1)) (sig (suf x (k+1)) (lvl x k) v):=fun v hv=>zVh h hk hv
 have eqB:∀{a b:Vec},V (suf x (k+1)) a→IsB (zJn (fv (k+1) a) (fv (k+1) b)) (a=b):=fun ha=>zCc h hk hc ha
 unfold f_l;rw[zD (by omega) (by omega),bs,cs];rcases zKp (body:=zRH x k) x.zA.length (k+1) (by omega) (fun j=>pw (mul (suf x (k+1))) (zeros (suf x (k+1)).length) ((lvl x k).cs.getD (j-(k+1)) []) (at0 x.zA j).toNat=sig (suf x (k+1)) (lvl x k) ((x.zT.getD j []).drop (k+1))) KB (fun j h1 h2 _=>by
   obtain⟨c1,c2,c3⟩:=jL h hk h1 h2;obtain⟨p1,p2⟩:=zQJ h hk h1 h2;have hpr:=(h.os.2 j h2).pos;refine zAQ (eqB (uR G.toMon c3 (at0 x.zA j).toNat)) (by omega) (bad:=yV.mk 1 k j 0) (kb (by decide)) ?_;unfold zRH;rw[yI h2,zH,zD (by omega) (by omega),bs,cs,c1,bs,zD (by omega) (by omega),bs,zD (by omega) (by omega),bs,c2,bs,yE h2,bs,zKq h hk hc c3 (by omega) (by omega),bs,p1,bs,hI _ p2,bs]) (by
   unfold zRH;rw[yS,zE])with⟨g1,g2⟩|⟨r,j,j1,j2,g1,g2,g3⟩
 rotate_left
 ·rw[g1,bs]
  exact .inr ⟨r,rfl,g2,fun q=>g3 (q.c1 j j1 j2)⟩
 rw[g1,bs];simp only
 rw[bs];rcases zKp (body:=zRJ x k) x.zA.length (k+1) (by omega) (fun i=> ∀j,i+1≤j→j<x.zA.length→
   mul (suf x (k+1)) ((lvl x k).cs.getD (j-(k+1)) []) ((lvl x k).cs.getD (i-(k+1)) [])=mul (suf x (k+1)) ((lvl x k).cs.getD (i-(k+1)) []) (sig (suf x (k+1)) (lvl x k) (((x.zB.getD i []).getD (j-(i+1)) []).drop (k+1)))) KB (fun i h1 h2 _=>by
   obtain⟨c1,c2,c3⟩:=jL h hk h1 h2;unfold zRJ;rw[yI h2,zH,zD (by omega) (by omega),bs,cs];rcases zKp (body:=zRI x k i) x.zA.length (i+1) (by omega) (fun j=>mul (suf x (k+1)) ((lvl x k).cs.getD (j-(k+1)) []) ((lvl x k).cs.getD (i-(k+1)) [])=mul (suf x (k+1)) ((lvl x k).cs.getD (i-(k+1)) []) (sig (suf x (k+1)) (lvl x k) (((x.zB.getD i []).getD (j-(i+1)) []).drop (k+1)))) KB (fun j h3 h4 _=>by
     obtain⟨d1,d2,d3⟩:=jL h hk (j:=j) (by omega) h4;obtain⟨e1,e2,e3⟩:=zQK h hk h1 h3 h4;refine zAQ (eqB (xP ok d3 c3)) (by omega) (bad:=yV.mk 2 k i j) (kb (by decide)) ?_;unfold zRI;rw[yI h4,zH,d1,bs,zD (by omega) (by omega),bs,zD (by omega) (by omega),bs,c2,bs,bs,zD (by omega) (by omega),bs,zD (by omega) (by omega),bs,d2,bs,e1,bs,zD (by omega) (by omega),bs,zD (by omega) (by omega),bs,e2,bs,hI _ e3,bs,zD (by omega) (by omega),bs,cs,hA _ _ d3 c3,bs,bs,hA _ _ c3 (hsV _ e3),bs]) (by
     unfold zRI;rw[yS,zE])with⟨g1,g2⟩|⟨r,j,j1,j2,g1,g2,g3⟩
   ·left
    rw[g1,bs];exact⟨rfl,g2⟩
   ·right
    rw[g1,bs];exact⟨r,rfl,g2,fun q=>g3 (q j j1 j2)⟩) (by
   unfold zRJ;rw[yS,zE])with⟨k1,k2⟩|⟨r,j,j1,j2,k1,k2,k3⟩
 rotate_left
 ·rw[k1,bs]
  exact .inr ⟨r,rfl,k2,fun q=>k3 (q.c2 j j1 j2)⟩
 rw[k1,bs];simp only
 rw[w1,bs,hI _ w2,bs];rcases eqB (b:=(lvl x k).w) (hsV _ w2)with⟨m1,m2⟩|⟨m1,m2⟩
 rotate_left
 ·rw[m1,bs,Js,zH]
  exact .inr ⟨_,rfl,kb (by decide),fun q=>m2 q.c3⟩
 rw[m1,bs,Jj,zE,bs];rcases zKp (body:=zRL x k (fv (k+1) (lvl x k).w)) x.zA.length (k+1) (by omega) (fun j=>mul (suf x (k+1)) (lvl x k).w (iter (lvl x k).o.toNat (sig (suf x (k+1)) (lvl x k)) (wL (x.zA.length-(k+1)) (j-(k+1))))=mul (suf x (k+1)) (wL (x.zA.length-(k+1)) (j-(k+1))) (lvl x k).w) KB (fun j h1 h2 _=>by
   have hU:=zLP h (k:=k+1) (by omega) hc (i:=j-(k+1)) (by omega);have hpr:=(h.os.2 k hk).pos;have hit:V (suf x (k+1)) (iter (lvl x k).o.toNat (sig (suf x (k+1)) (lvl x k)) (wL (x.zA.length-(k+1)) (j-(k+1)))):=vD hsV _ hU;refine zAQ (eqB (xP ok w2 hit)) (by omega) (bad:=yV.mk 4 k j 0) (kb (by decide)) ?_;unfold zRL;rw[yI h2,zH,zO3 h hk h1 h2,bs];rw[wT (S:=V (suf x (k+1))) (body:=zRK x k) (fun u=>fv (k+1) u) (sig (suf x (k+1)) (lvl x k)) (at0 x.zA k) (by omega) hsV (fun u i hu hi=>by
    unfold zRK;simp only
    rw[yE hk,bs,decide_eq_true hi,zH,hI _ hu,bs,zD (by omega) (by omega),bs,cs]) (fun u hu=>by
    unfold zRK;simp only
    rw[yE hk,bs,decide_eq_false (by omega),zE]) hU,bs,zD (by omega) (by omega),bs,cs]
   have ho:(lvl x k).o=at0 x.zA k:=rfl;rw[←ho,hA _ _ w2 hit,bs,bs,hA _ _ hU w2,bs]) (by
   unfold zRL;rw[yS,zE])with⟨n1,n2⟩|⟨r,j,j1,j2,n1,n2,n3⟩
 ·rw[n1,bs]
  exact .inl ⟨rfl,⟨g2,k2,m2,n2⟩⟩
 ·rw[n1,bs]
  exact .inr ⟨r,rfl,n2,fun q=>n3 (q.c4 j j1 j2)⟩
end
end Go.Pl

namespace Go.Pl
open Go Go.Ab Go.Wk Go.Pc
theorem zED{m:Vec→Vec→Vec}:∀(i:Nat)(cs:List Vec)(w acc:Vec),i≤cs.length→img m cs (zeros i++w) acc=img m (cs.drop i) w acc
 |0,cs,w,acc,_=>rfl
 |i+1,[],w,acc,h=>by simp at h
 |i+1,c::cs,w,acc,h=>by show img m (c::cs) (0::(zeros i++w)) acc=_;simp only[img,Hg,iter,List.drop_succ_cons];exact zED i cs w acc (by simpa using h)
theorem zGD{x:SPr}{v:List Int}{j k:Nat}(h:Exp x.zA v j)(hj:j<x.zA.length)(hk:k≤j+1):v.drop k=zeros (j+1-k)++v.drop (j+1):=by
 have:=zAO h hj;have h2:v.drop k=(zeros (j+1)++v.drop (j+1)).drop k:=by rw[←this]
 rw[h2,Jbv,zS,show k-(j+1)=0 from by omega,Hx]
 congr 1
 simp only[zeros,Li]
section
variable {x:SPr} (h:zCO x) {k:Nat} (hk:k<x.zA.length)
 include h hk
theorem kK:(lvl x k).cs.length=x.zA.length-(k+1):=by have ok0:=h.okAt (k:=k) (by omega);rw[yK hk]at ok0;rw[ok0.2.2.1,xM]
theorem zTA{j:Nat}(h1:k+1≤j)(h2:j<x.zA.length):sig (suf x (k+1)) (lvl x k) ((x.zT.getD j []).drop (k+1))=img (mul (suf x (k+1))) ((lvl x k).cs.drop (j-k)) (lvl x j).w (zeros (suf x (k+1)).length):=by have t1:=(h.tl j h2).1;have hcl:=kK h hk;rw[zGD t1 h2 (by omega),sig,zED _ _ _ _ (by omega),show j+1-(k+1)=j-k from by omega];rfl
theorem zNH:∀(d i:Nat),k+1+i+d=x.zA.length→(Rel (mul (suf x (k+1))) (zeros (suf x (k+1)).length) (suf x (k+1+i)) ((lvl x k).cs.drop i)↔
  (∀j,k+1+i≤j→j<x.zA.length→pw (mul (suf x (k+1))) (zeros (suf x (k+1)).length) ((lvl x k).cs.getD (j-(k+1)) []) (at0 x.zA j).toNat=sig (suf x (k+1)) (lvl x k) ((x.zT.getD j []).drop (k+1)))∧
  (∀a,k+1+i≤a→a<x.zA.length→ ∀j,a+1≤j→j<x.zA.length→
   mul (suf x (k+1)) ((lvl x k).cs.getD (j-(k+1)) []) ((lvl x k).cs.getD (a-(k+1)) [])=mul (suf x (k+1)) ((lvl x k).cs.getD (a-(k+1)) []) (sig (suf x (k+1)) (lvl x k) (((x.zB.getD a []).getD (j-(a+1)) []).drop (k+1)))))
 |0,i,hi=>by have hcl:=kK h hk;rw[vZ (x:=x) (k:=k+1+i) (by omega),Ub (show(lvl x k).cs.length≤i by omega)];simp only[Rel,true_iff];exact⟨fun j h1 h2=>by omega,fun a h1 h2=>by omega⟩
 |d+1,i,hi=>by
  have hcl:=kK h hk;have ih:=zNH d (i+1) (by omega);rw[show k+1+(i+1)=k+1+i+1 from by omega]at ih;have hj:k+1+i<x.zA.length:=by omega
  have hg:(lvl x k).cs.drop i=(lvl x k).cs.getD i []::(lvl x k).cs.drop (i+1):=by rw[Lt (by omega),J2,J3 (by omega)];rfl
  rw[yK hj,hg];simp only[Rel];rw[ih];have e1:=zTA h hk (j:=k+1+i) (by omega) hj;rw[show k+1+i-k=i+1 from by omega]at e1;have ho:(lvl x (k+1+i)).o=at0 x.zA (k+1+i):=rfl;rw[ho,←e1];have e2:∀j,k+1+i+1≤j→j<x.zA.length→ ∀dd,(lvl x (k+1+i)).cs[j-(k+1+i+1)]? =some dd→img (mul (suf x (k+1))) ((lvl x k).cs.drop (i+1)) dd (zeros (suf x (k+1)).length)=sig (suf x (k+1)) (lvl x k) (((x.zB.getD (k+1+i) []).getD (j-(k+1+i+1)) []).drop (k+1)):=fun j h1 h2 dd hdd=>by
   obtain⟨_,t2,t3⟩:=h.tl (k+1+i) hj;have t:=t3 (j-(k+1+i+1)) (by omega);rw[zGD t hj (by omega),sig,zED _ _ _ _ (by omega),show k+1+i+1-(k+1)=i+1 from by omega]
   congr 1
   simp only[lvl,Ju,Le]at hdd;obtain⟨u,hu,rfl⟩:=hdd;rw[J2 (i:=j-(k+1+i+1)),hu];rfl
  have e3:∀j,k+1+i+1≤j→j<x.zA.length→((lvl x k).cs.drop (i+1))[j-(k+1+i+1)]? =some ((lvl x k).cs.getD (j-(k+1)) [])∧ ∃dd,(lvl x (k+1+i)).cs[j-(k+1+i+1)]? =some dd:=fun j h1 h2=>by
   have hcl2:=kK h hj;refine⟨?_,?_⟩
   ·rw[Ko,show i+1+(j-(k+1+i+1))=j-(k+1)from by omega,J2,J3 (by omega)];rfl
   ·exact⟨_,J3 (by omega)⟩
  constructor
  ·rintro⟨a1,a2,a3,a4⟩
   refine⟨fun j h1 h2=>?_,fun a h1 h2 j h3 h4=>?_⟩
   ·rcases Jf (k+1+i) j with hlt|hge
    ·exact a3 j (by omega) h2
    ·obtain rfl:j=k+1+i:=by omega
     rw[show k+1+i-(k+1)=i from by omega];exact a1
   ·rcases Jf (k+1+i) a with hlt|hge
    ·exact a4 a (by omega) h2 j h3 h4
    ·obtain rfl:a=k+1+i:=by omega
     obtain⟨f1,dd,f2⟩:=e3 j (by omega) h4;have:=a2 _ _ _ f1 f2;rw[e2 j (by omega) h4 dd f2]at this;rw[show k+1+i-(k+1)=i from by omega];exact this
  ·rintro⟨a1,a2⟩
   refine⟨?_,fun kk c dd h1 h2=>?_,fun j h1 h2=>a1 j (by omega) h2,fun a h1 h2=>a2 a (by omega) h2⟩
   ·have:=a1 (k+1+i) (by omega) hj
    rw[show k+1+i-(k+1)=i from by omega]at this;exact this
   ·have hlt:kk<x.zA.length-(k+1+i+1):=by
     have:=(Ja.1 h1).1;rw[K8]at this;omega
    have g:=a2 (k+1+i) (by omega) hj (k+1+i+1+kk) (by omega) (by omega);obtain⟨f1,_⟩:=e3 (k+1+i+1+kk) (by omega) (by omega);rw[show k+1+i+1+kk-(k+1+i+1)=kk from by omega]at f1 g;rw[h1]at f1;have f1:=Lw.inj f1;have g2:=e2 (k+1+i+1+kk) (by omega) (by omega) dd (by rw[show k+1+i+1+kk-(k+1+i+1)=kk from by omega];exact h2);rw[show k+1+i+1+kk-(k+1+i+1)=kk from by omega]at g2;rw[g2,f1];rw[show k+1+i-(k+1)=i from by omega]at g;exact g
theorem zAR:vB (suf x k)↔vB (suf x (k+1))∧LC x k:=by
 have hr:=zNH h hk (x.zA.length-(k+1)) 0 (by omega);have hl:=xM x (k+1);rw[Hx,G7]at hr;rw[yK hk];simp only[vB];rw[hr];constructor
 ·rintro⟨a,⟨b1,b2⟩,c,d⟩
  refine⟨a,⟨b1,b2,c,fun j h1 h2=>?_⟩⟩;have:=d (j-(k+1)) (by omega)
  rwa [hl]at this
 ·rintro⟨a,b⟩
  refine⟨a,⟨b.c1,b.c2⟩,b.c3,fun j hj=>?_⟩;have:=b.c4 (k+1+j) (by omega) (by omega);rw[show k+1+j-(k+1)=j from by omega]at this
  rwa [hl]
end
theorem zC0{x:SPr}(h:vB (suf x 0))(k:Nat):vB (suf x k):=by
 have:=zDP h k
 rwa [Jd]at this
def zBr(x:SPr):Prop:=Pres x∧vB (suf x 0)∧zDN x
theorem zDR{x:SPr}(hl:x.zA.length≤1048576):IsB (zUi x) (zBr x):=by
 unfold zUi;rcases zC8 hl with⟨h1,h2⟩|⟨h1,h2⟩
 ·have h6:=h2.os.1
  rw[h1,bs,zH];unfold f_T;obtain⟨r,r1,r2⟩:=vT (body:=zKU x) (Q:=fun r=> ∃s:Nat,r=(s:Int)∧vB (suf x s)∧(s=0∨ ¬vB (suf x (s-1)))) (fun i s=>i≤x.zA.length∧s=((x.zA.length-i:Nat):Int)∧vB (suf x (x.zA.length-i))) x.zA.length (fun i s hi ⟨_,hs,hcs⟩=>by
    subst hs;have hk:x.zA.length-i-1<x.zA.length:=by omega
    have e9:x.zA.length-(i+1)=x.zA.length-i-1:=by omega
    rw[e9];have e8:i+1≤x.zA.length:=by omega
    rw[show x.zA.length-i=x.zA.length-i-1+1 from by omega]at hcs ⊢
    have hlev:=zGC h2.toPres hk hcs;have hiff:=zAR h2.toPres.w hk
    generalize x.zA.length-i-1=k at*
    unfold zKU;rw[decide_eq_true (by omega),zH,zD (by omega) (by omega),bs,show(((k+1:Nat):Int)-1)=(k:Int)from by omega];rcases hlev with⟨g1,g2⟩|⟨r,g1,g2,g3⟩
    ·left
     rw[g1,bs];simp only[beq_self_eq_true,Bool.and_true];rw[zH,bs];exact⟨_,rfl,e8,rfl,hiff.2 ⟨hcs,g2⟩⟩
    ·right
     rw[g1,bs,show(r.Kind==0)=false from by simpa using g2,Bool.false_and,zE];refine⟨_,rfl,k+1,rfl,hcs,.inr fun q=>g3 (hiff.1 q).2⟩) (fun s ⟨_,hs,hcs⟩=>by
    rw[Kk]at hs hcs;subst hs;unfold zKU;rw[show decide (((0:Nat):Int)> 0)=false from rfl,zE];exact⟨_,rfl,0,rfl,hcs,.inl rfl⟩) (s:=(x.zA.length:Int)) ⟨by omega,by rw[Hb],by rw[Hb,vZ (by omega)];simp only[vB]⟩
  obtain⟨s,rfl,hcs,hs⟩:=r2;rw[r1,bs,bs];cases s with
  |zero=>exact .inl ⟨rfl,h2.toPres,hcs,h2⟩
  |succ s=>
   refine .inr ⟨?_,fun q=>?_⟩
   ·congr 1
   ·rcases hs with hs|hs
    ·omega
    ·exact hs (zC0 q.2.1 _)
 ·rw[h1,bs,zE]
  exact .inr ⟨rfl,fun q=>h2 q.2.2⟩
theorem zLS{x:SPr}(hl:x.zA.length≤1048576):IsB (zUc x) (zBr x):=by
 unfold zUc;rcases zC9 hl with⟨h1,h2⟩|⟨h1,h2⟩
 ·have h6:=h2.os.1
  rw[h1,bs,zH];unfold zW4 zW3;rw[zD (by omega) (by omega),bs];obtain⟨r,r1,r2⟩:=vT (body:=zKQ x) (Q:=fun r=>(r=.inl ()∧vB (suf x 0))∨ ∃f,r=.inr f∧f.Kind≠0∧ ¬vB (suf x 0)) (fun i s=>i≤x.zA.length∧s=((x.zA.length-i:Nat):Int)-1∧vB (suf x (x.zA.length-i))) x.zA.length (fun i s hi ⟨_,hs,hcs⟩=>by
    subst hs;have hk:x.zA.length-i-1<x.zA.length:=by omega
    have e9:x.zA.length-(i+1)=x.zA.length-i-1:=by omega
    rw[e9];have e8:i+1≤x.zA.length:=by omega
    rw[show x.zA.length-i=x.zA.length-i-1+1 from by omega]at hcs ⊢
    have hlev:=zLR h2.toPres hk hcs;have hiff:=zAR h2.toPres.w hk
    generalize x.zA.length-i-1=k at*
    unfold zKQ;rw[show(((k+1:Nat):Int)-1)=(k:Int)from by omega,decide_eq_true (by omega),zH];rcases hlev with⟨g1,g2⟩|⟨r,g1,g2,g3⟩
    ·left
     rw[g1,bs];simp only
     rw[show((0:Int) != 0)=false from rfl,zE,zD (by omega) (by omega),bs];exact⟨_,rfl,e8,rfl,hiff.2 ⟨hcs,g2⟩⟩
    ·right
     rw[g1,bs,show(r.Kind != 0)=true from by simpa using g2,zH];exact⟨_,rfl,.inr ⟨r,rfl,g2,fun q=>g3 (hiff.1 (zC0 q _)).2⟩⟩) (fun s ⟨_,hs,hcs⟩=>by
    rw[Kk]at hs hcs;subst hs;unfold zKQ;rw[show decide (((0:Nat):Int)-1≥0)=false from rfl,zE];exact⟨_,rfl,.inl ⟨rfl,hcs⟩⟩) (s:=(x.zA.length:Int)-1) ⟨by omega,by rw[Hb],by rw[Hb,vZ (by omega)];simp only[vB]⟩
  rw[r1,bs];rcases r2 with⟨rfl,q⟩|⟨f,rfl,g1,g2⟩
  ·exact .inl ⟨rfl,h2.toPres,q,h2⟩
  ·simp only
   rw[bs,show(f.Kind==0)=false from by simpa using g1];exact .inr ⟨rfl,fun q=>g2 q.2.1⟩
 ·rw[h1,bs,zE]
  exact .inr ⟨rfl,fun q=>h2 q.2.2⟩
end Go.Pl

namespace Go.Pl
open Go Go.Ab Go.Wk
abbrev Mx:=List (List Int)
def S:Nat→(Nat→Int)→Int
 |0,_=>0
 |n+1,f=>S n f+f n
theorem wC{n:Nat}{f g:Nat→Int}(h:∀i,i<n→f i=g i):S n f=S n g:=by
 induction n with
 |zero=>rfl
 |succ n ih=>simp only[S];rw[ih fun i hi=>h i (by omega),h n (by omega)]
theorem zCd{p:Int}{f g:Nat→Int}:∀{n:Nat},(∀i,i<n→f i%p=g i%p)→S n f%p=S n g%p
 |0,_=>rfl
 |n+1,h=>by simp only[S];rw[Km,zCd (n:=n) fun i hi=>h i (by omega),h n (by omega),←Km]
theorem qS:∀n:Nat,S n (fun _=>0)=0
 |0=>rfl
 |n+1=>by simp only[S,qS n];rfl
theorem zKr{f g:Nat→Int}:∀n:Nat,S n (fun i=>f i+g i)=S n f+S n g
 |0=>rfl
 |n+1=>by simp only[S,zKr n];omega
theorem zNI{f:Nat→Int}(a:Int):∀n:Nat,S n (fun i=>f i*a)=S n f*a
 |0=>by simp[S]
 |n+1=>by simp only[S,zNI a n,Qo]
theorem zDs{f:Nat→Int}(a:Int):∀n:Nat,S n (fun i=>a*f i)=a*S n f
 |0=>by simp[S]
 |n+1=>by simp only[S,zDs a n,Int.mul_add]
theorem zIU{f:Nat→Nat→Int}(m:Nat):∀n:Nat,S n (fun i=>S m (fun j=>f i j))=S m (fun j=>S n (fun i=>f i j))
 |0=>by simp only[S];exact(qS m).symm
 |n+1=>by simp only[S];rw[zIU m n,zKr]
theorem zAS{f:Nat→Int}{k:Nat}:∀{n:Nat},k<n→(∀i,i<n→i≠k→f i=0)→S n f=f k
 |0,h,_=>by omega
 |n+1,h,hz=>by
  simp only[S]
  by_cases hk:k=n
  ·subst hk
   rw[wC (g:=fun _=>0) fun i hi=>hz i (by omega) (by omega),qS];omega
  ·rw[zAS (n:=n) (by omega) fun i hi=>hz i (by omega),hz n (by omega) (by omega)];omega
def mkv(D:Nat)(f:Nat→Int):List Int:=(Jq D).map f
theorem zZ(D:Nat)(f:Nat→Int):(mkv D f).length=D:=by simp[mkv]
theorem zC1{D:Nat}{f:Nat→Int}{i:Nat}(h:i<D):(mkv D f)[i]? =some (f i):=by simp[mkv,h]
theorem yB{D:Nat}{f:Nat→Int}{i:Nat}(h:i<D):at0 (mkv D f) i=f i:=by rw[at0,J2,zC1 h];rfl
theorem zW{D:Nat}{f g:Nat→Int}(h:∀i,i<D→f i=g i):mkv D f=mkv D g:=by unfold mkv;apply Q7;intro i hi;exact h i (by simpa using hi)
theorem qX{D:Nat}{f:Nat→Int}{j:Nat}{a:Int}:(mkv D f).set j a=mkv D (fun i=>if i=j then a else f i):=by
 apply La;intro i;rw[Jba,zZ]
 by_cases hi:i<D
 ·by_cases hij:j=i
  ·subst hij;rw[if_pos rfl,if_pos hi,zC1 hi,if_pos rfl]
  ·rw[if_neg hij,zC1 hi,zC1 hi,if_neg fun h=>hij h.symm]
 ·have h1:∀g:Nat→Int,(mkv D g)[i]? =none:=fun g=>Jn (by rw[zZ];omega)
  rw[h1,h1]
  by_cases hij:j=i
  ·subst hij;rw[if_pos rfl,if_neg hi]
  ·rw[if_neg hij]
theorem wY{v:List Int}{D:Nat}(h:v.length=D):v=mkv D (at0 v):=by
 apply La;intro i
 by_cases hi:i<D
 ·rw[zC1 hi,at0,J2,J3 (by omega)];rfl
 ·rw[Jn (by omega),Jn (by rw[zZ];omega)]
theorem uS(D:Nat):J1 D (0:Int)=mkv D (fun _=>0):=by
 apply La;intro i
 by_cases hi:i<D
 ·rw[zC1 hi];simp[hi]
 ·rw[Jn (by simp;omega),Jn (by rw[zZ];omega)]
abbrev ent(B:Mx)(l j:Nat):Int:=at0 (B.getD l []) j
def tO(p:Int)(D:Nat)(r:List Int)(B:Mx):List Int:=mkv D fun j=>S D (fun l=>at0 r l*ent B l j)%p
def PM(p:Int)(D:Nat)(A B:Mx):Mx:=A.map fun r=>tO p D r B
def idM(D:Nat):Mx:=(Jq D).map fun i=>mkv D fun j=>if j=i then 1 else 0
def Row(p:Int)(D:Nat)(r:List Int):Prop:=r.length=D∧ ∀i,i<D→0≤at0 r i∧at0 r i≤p-1
def Mat(p:Int)(D:Nat)(A:Mx):Prop:=A.length=D∧ ∀i,i<D→Row p D (A.getD i [])
theorem zBs{p:Int}{D i:Nat}{A B:Mx}(h:i<A.length):(PM p D A B).getD i []=tO p D (A.getD i []) B:=by simp only[PM,J2,Ju,J3 h];rfl
theorem vL{p:Int}{D:Nat}{A B:Mx}:(PM p D A B).length=A.length:=by simp[PM]
theorem zCe{p:Int}{D:Nat}{A B:Mx}(hp:0<p)(hA:A.length=D):Mat p D (PM p D A B):=by refine⟨by rw[vL,hA],fun i hi=>?_⟩;rw[zBs (by omega)];refine⟨by rw[tO,zZ],fun j hj=>?_⟩;rw[tO,yB hj];have h1:=Lm (S D fun l=>at0 (A.getD i []) l*ent B l j) (show p≠0 by omega);have h2:=Kx (S D fun l=>at0 (A.getD i []) l*ent B l j) hp;omega
theorem zLT{p:Int}{D i j:Nat}{A B:Mx}(hA:A.length=D)(hi:i<D)(hj:j<D):ent (PM p D A B) i j=S D (fun l=>ent A i l*ent B l j)%p:=by rw[ent,zBs (by omega),tO,yB hj]
theorem zGE{D:Nat}{A B:Mx}(hA:A.length=D)(hB:B.length=D)(h:∀i,i<D→A.getD i []=B.getD i []):A=B:=by
 apply La;intro i
 by_cases hi:i<D
 ·have:=h i hi
  rw[J2,J2,J3 (by omega),J3 (by omega)]at this;rw[J3 (by omega),J3 (by omega)];exact congrArg some this
 ·rw[Jn (by omega),Jn (by omega)]
theorem zKs{p:Int}{D:Nat}{A B C:Mx}(hA:A.length=D)(hB:B.length=D):PM p D (PM p D A B) C=PM p D A (PM p D B C):=by
 refine zGE (by rw[vL,vL,hA]) (by rw[vL,hA]) fun i hi=>?_
 rw[zBs (A:=PM p D A B) (by rw[vL];omega),zBs (A:=A) (B:=PM p D B C) (by omega)];unfold tO;refine zW fun j hj=>?_
 have e1:S D (fun l=>at0 ((PM p D A B).getD i []) l*ent C l j)%p=S D (fun l=>S D (fun q=>ent A i q*ent B q l)*ent C l j)%p:=zCd fun l hl=>by
  have:=zLT (p:=p) (B:=B) hA hi hl;simp only[ent]at this ⊢
  rw[this,Jz,Kb,←Jz]
 have e2:S D (fun l=>at0 (A.getD i []) l*ent (PM p D B C) l j)%p=S D (fun q=>ent A i q*S D (fun l=>ent B q l*ent C l j))%p:=zCd fun q hq=>by rw[zLT hB hq hj,Jz,Kb,←Jz]
 rw[e1,e2]
 congr 1
 have e3:(fun l=>S D (fun q=>ent A i q*ent B q l)*ent C l j)=fun l=>S D (fun q=>ent A i q*ent B q l*ent C l j):=funext fun l=>(zNI _ _).symm
 have e4:(fun q=>ent A i q*S D (fun l=>ent B q l*ent C l j))=fun q=>S D (fun l=>ent A i q*ent B q l*ent C l j):=funext fun q=>by rw[←zDs];exact wC fun l _=>by rw[H8]
 rw[e3,e4];exact zIU D D
theorem uL(D:Nat):(idM D).length=D:=by simp[idM]
theorem zC2{D i:Nat}(h:i<D):(idM D).getD i []=mkv D fun j=>if j=i then 1 else 0:=by simp[idM,J2,h]
theorem zAq{p:Int}{D:Nat}(hp:2≤p):Mat p D (idM D):=by refine⟨uL D,fun i hi=>?_⟩;rw[zC2 hi];refine⟨zZ _ _,fun j hj=>?_⟩;rw[yB hj];split<;>omega
theorem kL{p a:Int}(h:0≤a∧a≤p-1):a%p=a:=K6 h.1 (by omega)
theorem zIV{p:Int}{D:Nat}{B:Mx}(hB:Mat p D B):PM p D (idM D) B=B:=by
 refine zGE (by rw[vL,uL]) hB.1 fun i hi=>?_
 rw[zBs (by rw[uL];exact hi),zC2 hi,tO];obtain⟨h1,h2⟩:=hB.2 i hi;refine Eq.trans (zW fun j hj=>?_) (wY h1).symm;rw[zAS (k:=i) hi fun l hl hne=>by rw[yB hl,if_neg hne,G8],yB hi,if_pos rfl,Q9];exact kL (h2 j hj)
theorem zKt{p:Int}{D:Nat}{A:Mx}(hA:Mat p D A):PM p D A (idM D)=A:=by
 refine zGE (by rw[vL,hA.1]) hA.1 fun i hi=>?_
 rw[zBs (by rw[hA.1];exact hi),tO];obtain⟨h1,h2⟩:=hA.2 i hi;refine Eq.trans (zW fun j hj=>?_) (wY h1).symm;rw[zAS (k:=j) hj fun l hl hne=>by rw[ent,zC2 hl,yB hj,if_neg (fun h=>hne h.symm),G4],ent,zC2 hj,yB hj,if_pos rfl,Hc];exact kL (h2 j hj)
theorem zQL{p:Int}{D i j:Nat}{B:Mx}(hB:Mat p D B)(hi:i<D)(hj:j<D):ixO B (i:Int)=some (B.getD i [])∧ixO (B.getD i []) (j:Int)=some (ent B i j)∧(B.getD i []).length=D∧0≤ent B i j∧ent B i j≤p-1:=by obtain⟨h1,h2⟩:=hB.2 i hi;have:=hB.1;exact⟨yC [] (by omega),yE (by omega),h1,h2 j hj⟩
def acc(p:Int)(D i:Nat)(r:List Int)(B:Mx):List Int:=mkv D fun j=>S i (fun l=>at0 r l*ent B l j)%p
def zCA(p:Int)(D i k:Nat)(r:List Int)(B:Mx):List Int:=mkv D fun j=>if j<k then S (i+1) (fun l=>at0 r l*ent B l j)%p else S i (fun l=>at0 r l*ent B l j)%p
theorem zHU{p:Int}{D i:Nat}{r:List Int}{B:Mx}:zCA p D i 0 r B=acc p D i r B:=zW fun j _=>by rw[if_neg (by omega)]
theorem zHV{p:Int}{D i:Nat}{r:List Int}{B:Mx}:zCA p D i D r B=acc p D (i+1) r B:=zW fun j hj=>by rw[if_pos hj]
theorem zKu{p:Int}{D i k:Nat}{r:List Int}{B:Mx}(hk:k<D){a:Int}(ha:a=(at0 (zCA p D i k r B) k+at0 r i*ent B i k)%p):(zCA p D i k r B).set k a=zCA p D i (k+1) r B:=by
 subst ha;simp only[zCA];rw[qX,yB hk,if_neg (by omega)];refine zW fun j hj=>?_
 by_cases hjk:j=k
 ·subst hjk
  rw[if_pos rfl,if_pos (by omega)];simp only[S];rw[Jcb]
 ·rw[if_neg hjk]
  by_cases hlt:j<k
  ·rw[if_pos hlt,if_pos (by omega)]
  ·rw[if_neg hlt,if_neg (by omega)]
theorem zKv{p:Int}{D i k j:Nat}{r:List Int}{B:Mx}(hp:0<p)(hj:j<D):0≤at0 (zCA p D i k r B) j∧at0 (zCA p D i k r B) j≤p-1:=by
 rw[zCA,yB hj];split
 ·have h1:=Lm (S (i+1) fun l=>at0 r l*ent B l j) (show p≠0 by omega)
  have h2:=Kx (S (i+1) fun l=>at0 r l*ent B l j) hp;omega
 ·have h1:=Lm (S i fun l=>at0 r l*ent B l j) (show p≠0 by omega)
  have h2:=Kx (S i fun l=>at0 r l*ent B l j) hp;omega
theorem zGF{p:Int}{D i k:Nat}{r:List Int}{B:Mx}:(zCA p D i k r B).length=D:=zZ _ _
theorem zNJ{p:Int}{D i k j:Nat}{r:List Int}{B:Mx}(hj:j<D):ixO (zCA p D i k r B) (j:Int)=some (at0 (zCA p D i k r B) j):=yE (by rw[zGF];exact hj)
theorem zKw{p:Int}{D:Nat}{r:List Int}{B:Mx}:J1 D (0:Int)=acc p D 0 r B:=by rw[uS];exact zW fun j _=>by simp[S]
theorem zHW{a b p:Int}(hp:p≤7)(ha:0≤a∧a≤p-1)(hb:0≤b∧b≤p-1):0≤a*b∧a*b≤36:=by have h1:0≤a*b:=U0 ha.1 hb.1;have h2:a*b≤6*6:=H2 (by omega) (by omega) hb.1 (by omega);omega
section
variable {p:Int}{D:Nat} (hp:Prime p) (hD:D≤8)
 include hp hD
theorem zDt{r:List Int}{B:Mx}(hr:Row p D r)(hB:Mat p D B):f_I p r B (D:Int)=some (tO p D r B):=by
 have h7:=hp.pos;have hBl:=hB.1;have hrl:=hr.1;unfold f_I;rw[yO (by omega),bs,zKw (p:=p) (r:=r) (B:=B)];have:=zN (body:=zRO p r B) (r:=acc p D D r B) (fun i=>(acc p D i r B,(i:Int))) D (fun i hi=>by
  have hri:=hr.2 i hi;unfold zRO;simp only
  rw[hrl,hBl,yI hi,zH,zH];have inner:=zN (body:=zRN p r B (acc p D i r B,(i:Int))) (r:=acc p D (i+1) r B) (fun k=>(zCA p D i k r B,(k:Int))) D (fun k hk=>by
   obtain⟨b1,b2,b3,b4⟩:=zQL hB hi hk;have ha:=zKv (p:=p) (i:=i) (k:=k) (r:=r) (B:=B) (by omega) hk;have hm:=zHW (by omega) hri b4;unfold zRN;simp only
   rw[zGF,yI hk,zH,b1,bs,b3,yI hk,zH,zNJ hk,bs,yE (by omega),bs,bs,b2,bs,zD (by omega) (by omega),bs,zD (by omega) (by omega),bs];have hrem:vF (at0 (zCA p D i k r B) k+at0 r i*ent B i k) p=some ((at0 (zCA p D i k r B) k+at0 r i*ent B i k)%p):=by unfold vF;rw[if_neg (by omega),Lj (by omega)]
   rw[hrem,bs,bs,zD (by omega) (by omega),bs,cs,J7,zKu hk rfl]) (by
   unfold zRN;simp only
   rw[zGF,yS,zE,zHV])
  rw[zHU,show((0:Nat):Int)=0 from rfl]at inner;rw[inner,bs,zD (by omega) (by omega),bs,cs]) (by
  unfold zRO;simp only
  rw[hrl,yS,zE])
 rw[show((0:Nat):Int)=0 from rfl]at this;rw[this,bs];rfl
theorem zIW{a:Int}(h0:0≤a)(_h1:a≤1000):zHu a p=some (a%p):=by
 have _:=hD;have h7:=hp.pos;have e1:=Lm a (show p≠0 by omega);have e2:=Kx a (show 0<p by omega);unfold zHu vF;rw[if_neg (by omega),bs,Lj h0,zD (by omega) (by omega),bs,if_neg (by omega),bs,Lj (by omega)]
 congr 1
 rw[U9,Kb]
theorem zEE{i:Nat}{r:List Int}{B:Mx}(hi:i<D)(hr:Row p D r)(hB:Mat p D B):f_t (acc p D i r B) (B.getD i []) (at0 r i) p=some (acc p D (i+1) r B):=by
 have h7:=hp.pos;have hri:=hr.2 i hi;unfold f_t;have hl:(acc p D i r B).length=D:=zZ _ _;have inner:=zN (body:=zKW (acc p D i r B) (B.getD i []) (at0 r i) p) (r:=acc p D (i+1) r B) (fun k=>(zCA p D i k r B,(k:Int))) D (fun k hk=>by
  obtain⟨b1,b2,b3,b4⟩:=zQL hB hi hk;have ha:=zKv (p:=p) (i:=i) (k:=k) (r:=r) (B:=B) (by omega) hk;have hm:=zHW (by omega) hri b4;unfold zKW;simp only
  rw[hl,yI hk,zH,zNJ hk,bs,b2,bs,zD (by omega) (by omega),bs,zD (by omega) (by omega),bs,zIW hp hD (by omega) (by omega),bs,bs,zD (by omega) (by omega),bs,cs,J7,zKu hk rfl]) (by
  unfold zKW;simp only
  rw[hl,yS,zE,zHV])
 rw[zHU,show((0:Nat):Int)=0 from rfl]at inner;rw[inner,bs]
theorem zAT{r:List Int}{B:Mx}{q:Int}(hr:Row p D r)(hB:Mat p D B)(hq:q=(D:Int)):zSv r (zU.mk p q B)=some (tO p D r B):=by
 subst hq;have hrl:=hr.1;unfold zSv;simp only
 rw[yO (by omega),bs,zKw (p:=p) (r:=r) (B:=B)];have:=zN (body:=zKX r (zU.mk p (D:Int) B)) (r:=acc p D D r B) (fun i=>(acc p D i r B,(i:Int))) D (fun i hi=>by
  have hBl:=hB.1;unfold zKX;simp only
  rw[hrl,yI hi,zH,yE (by omega),bs,yC [] (by omega),bs,zEE hp hD hi hr hB,bs,zD (by omega) (by omega),bs,cs]) (by
  unfold zKX;simp only
  rw[hrl,yS,zE])
 rw[show((0:Nat):Int)=0 from rfl]at this;rw[this,bs];rfl
theorem zHX{A B:Mx}{i:Nat}(hi:i<A.length):(PM p D A B).take i++[tO p D (A.getD i []) B]=(PM p D A B).take (i+1):=by
 have _:=hp;have _:=hD;rw[Jr (by rw[vL];exact hi)]
 congr 2
 have:=zBs (p:=p) (D:=D) (B:=B) hi;rw[J2,J3 (by rw[vL];exact hi)]at this;exact this.symm
theorem qY{A B:Mx}(hA:Mat p D A)(hB:Mat p D B):f_Y p A B (D:Int)=some (PM p D A B):=by
 have hAl:=hA.1;unfold f_Y;have:=zN (body:=zRP p A B (D:Int)) (r:=PM p D A B) (fun i=>((PM p D A B).take i,(i:Int))) D (fun i hi=>by
  unfold zRP;simp only
  rw[hAl,yI hi,zH,yC [] (by omega),bs,zDt hp hD (hA.2 i hi) hB,bs,yF (by rw[Jt,vL];simp;omega),bs,zD (by omega) (by omega),bs,cs,zHX hp hD (by omega)]) (by
  unfold zRP;simp only
  rw[hAl,yS,zE,Je (by rw[vL];omega)])
 rw[show((0:Nat):Int)=0 from rfl,Jx]at this;rw[this,bs]
theorem zHl{A B:Mx}{q:Int}(hA:Mat p D A)(hB:Mat p D B):zUk (zU.mk p q A) (zU.mk p (D:Int) B)=some (zU.mk p (D:Int) (PM p D A B)):=by
 have hAl:=hA.1;unfold zUk;have:=zN (body:=zKY (zU.mk p q A) (zU.mk p (D:Int) B)) (r:=PM p D A B) (fun i=>((PM p D A B).take i,(i:Int))) D (fun i hi=>by
  unfold zKY;simp only
  rw[hAl,yI hi,zH,yC [] (by omega),bs,zAT hp hD (hA.2 i hi) hB rfl,bs,yF (by rw[Jt,vL];simp;omega),bs,zD (by omega) (by omega),bs,cs,zHX hp hD (by omega)]) (by
  unfold zKY;simp only
  rw[hAl,yS,zE,Je (by rw[vL];omega)])
 rw[show((0:Nat):Int)=0 from rfl,Jx]at this;rw[this,bs]
theorem zKx{i:Nat}(_hi:i<D):(J1 D (0:Int)).set i 1=mkv D fun j=>if j=i then 1 else 0:=by have _:=hp;have _:=hD;rw[uS,qX]
theorem zNK{i:Nat}(hi:i<D):(idM D).take i++[mkv D fun j=>if j=i then 1 else 0]=(idM D).take (i+1):=by
 have _:=hp;have _:=hD;rw[Jr (by rw[uL];exact hi)]
 congr 2
 have:=zC2 hi;rw[J2,J3 (by rw[uL];exact hi)]at this;exact this.symm
theorem zGG:f_K (D:Int)=some (idM D):=by
 unfold f_K;have:=zN (body:=zKR (D:Int)) (r:=idM D) (fun i=>((idM D).take i,(i:Int))) D (fun i hi=>by
  unfold zKR;simp only
  rw[yI hi,zH,yO (by omega),bs,wU,Ki,if_pos hi,bs,J7,zKx hp hD hi,yF (by rw[Jt,uL];simp;omega),bs,zD (by omega) (by omega),bs,cs,zNK hp hD hi]) (by
  unfold zKR;simp only
  rw[yS,zE,Je (by rw[uL];omega)])
 rw[show((0:Nat):Int)=0 from rfl,Jx]at this;rw[this,bs]
theorem zHm:f_Z p (D:Int)=some (zU.mk p (D:Int) (idM D)):=by
 unfold f_Z;have:=zN (body:=zSu (D:Int)) (r:=idM D) (fun i=>((idM D).take i,(i:Int))) D (fun i hi=>by
  unfold zSu;simp only
  rw[yI hi,zH,yO (by omega),bs,wU,Ki,if_pos hi,bs,J7,zKx hp hD hi,yF (by rw[Jt,uL];simp;omega),bs,zD (by omega) (by omega),bs,cs,zNK hp hD hi]) (by
  unfold zSu;simp only
  rw[yS,zE,Je (by rw[uL];omega)])
 rw[show((0:Nat):Int)=0 from rfl,Jx]at this;rw[this,bs]
end
end Go.Pl

namespace Go.Pl
open Go Go.Ab Go.Wk Go.Pc
def nw:Nat→List Int→List Nat
 |_,[]=>[]
 |o,a::v=>J1 a.toNat o++nw (o+1) v
theorem zEF:∀(o:Nat)(u v:List Int),nw o (u++v)=nw o u++nw (o+u.length) v
 |o,[],v=>by simp[nw]
 |o,a::u,v=>by simp only[Kh,nw,zEF (o+1) u v,Jc,Jh];rw[show o+1+u.length=o+(u.length+1)from by omega]
theorem zIX{v:List Int}{i:Nat}(h:i<v.length):nw 0 (v.take (i+1))=nw 0 (v.take i)++J1 (at0 v i).toNat i:=by rw[Jr h,zEF,Jt,Lp (by omega),Jd];simp only[nw,J9];rw[at0,J2,J3 h];rfl
theorem zQM{n:Nat}:∀(o:Nat)(v:List Int),o+v.length≤n→ ∀w∈nw o v,w<n
 |o,[],_,w,h=>by simp[nw]at h
 |o,a::v,hv,w,h=>by
  simp only[nw,Lf,Jh]at h hv;rcases h with h|h
  ·have:=Qg h;omega
  ·exact zQM (o+1) v (by omega) w h
theorem zGH:∀(o:Nat)(v:List Int),(∀i,i<v.length→at0 v i≤6)→(nw o v).length≤6*v.length
 |o,[],_=>by simp[nw]
 |o,a::v,h=>by
  have h0:=h 0 (by simp);have:=zGH (o+1) v fun i hi=>by have:=h (i+1) (by simpa using hi);simpa[at0]using this
  simp only[at0,H9]at h0;simp only[nw,J6,Jy,Jh];omega
def wM(p:Int)(D:Nat)(A:List Mx)(ws:List Nat)(B:Mx):Mx:=ws.foldl (fun B w=>PM p D B (A.getD w [])) B
theorem zEG{p:Int}{D:Nat}{A:List Mx}{u v:List Nat}{B:Mx}:wM p D A (u++v) B=wM p D A v (wM p D A u B):=by simp[wM,Jat]
theorem zGI{p:Int}{D:Nat}{A:List Mx}{w:Nat}:∀(k:Nat)(B:Mx),wM p D A (J1 k w) B=iter k (fun B=>PM p D B (A.getD w [])) B
 |0,_=>rfl
 |k+1,B=>by rw[Kj];show wM p D A (J1 k w) (PM p D B (A.getD w []))=_;rw[zGI k];rfl
theorem zEH{p:Int}{D:Nat}{A:List Mx}(hp:0<p):∀(ws:List Nat){B:Mx},Mat p D B→Mat p D (wM p D A ws B)
 | [],_,hB=>hB
 |_w::ws,_,hB=>zEH hp ws (zCe hp hB.1)
theorem zQN{p:Int}{D:Nat}{A:List Mx}(hp:0<p){C:Mx}(hC:C.length=D):∀(ws:List Nat){B:Mx},Mat p D B→wM p D A ws (PM p D C B)=PM p D C (wM p D A ws B)
 | [],_,_=>rfl
 |w::ws,B,hB=>by show wM p D A ws (PM p D (PM p D C B) (A.getD w []))=PM p D C (wM p D A ws (PM p D B (A.getD w [])));rw[zKs hC hB.1,zQN hp hC ws (zCe hp hB.1)]
structure MOk (n:Nat) (m:zC) (D:Nat):Prop where
 p:Prime m.Prime
 d:m.Dim=(D:Int)
 d1:1≤D
 d3:D≤3
 len:m.zI.length=n
 mat:∀i,i<n→Mat m.Prime D (m.zI.getD i [])
structure zWc (n:Nat) (m:zC) (D:Nat):Prop where
 p:Prime m.Prime
 d:m.Dim=(D:Int)
 d3:D≤30
 len:m.zI.length=n
 mat:∀i,i<n→Mat m.Prime D (m.zI.getD i [])
theorem MOk.x{n D:Nat}{m:zC}(h:MOk n m D):zWc n m D:=⟨h.p,h.d,by have:=h.d3;omega,h.len,h.mat⟩
structure zWd (n:Nat) (m:zC) (D:Nat):Prop where
 p:Prime m.Prime
 d1:1≤D
 d3:D≤200
 len:m.zI.length=n
 mat:∀i,i<n→Mat m.Prime D (m.zI.getD i [])
theorem MOk.b{n D:Nat}{m:zC}(h:MOk n m D):zWd n m D:=⟨h.p,h.d1,by have:=h.d3;omega,h.len,h.mat⟩
section
variable {n D:Nat}{m:zC} (hm:MOk n m D) (hn:n≤9)
 include hm hn
theorem zKy{v:List Int}(hl:v.length=n)(hv:∀i,i<n→0≤at0 v i∧at0 v i≤6):f_L m v=some (wM m.Prime D m.zI (nw 0 v) (idM D)):=by
 have h7:=hm.p.pos;have h3:=hm.d3;have hlen:=hm.len;unfold f_L;rw[hm.d,zGG hm.p (by omega),bs];have hI:∀i,Mat m.Prime D (wM m.Prime D m.zI (nw 0 (v.take i)) (idM D)):=fun i=>zEH (by omega) _ (zAq h7.1)
 have:=zN (body:=zRR m v) (r:=wM m.Prime D m.zI (nw 0 v) (idM D)) (fun i=>(wM m.Prime D m.zI (nw 0 (v.take i)) (idM D),(i:Int))) n (fun i hi=>by
  have hvi:=hv i hi;unfold zRR;simp only
  rw[hl,yI hi,zH];rw[wT (S:=Mat m.Prime D) (body:=zRQ m v (wM m.Prime D m.zI (nw 0 (v.take i)) (idM D),(i:Int))) (fun B=>B) (fun B=>PM m.Prime D B (m.zI.getD i [])) (at0 v i) hvi.1 (fun B hB=>zCe (by omega) hB.1) (fun B q hB hq=>by
   unfold zRQ;simp only
   rw[yE (by omega),bs,decide_eq_true hq,zH,yC [] (by omega),bs,hm.d,qY hm.p (by omega) hB (hm.mat i hi),bs,zD (by omega) (by omega),bs,cs]) (fun B hB=>by
   unfold zRQ;simp only
   rw[yE (by omega),bs,decide_eq_false (by omega),zE]) (hI i),bs,zD (by omega) (by omega),bs,cs]
  rw[zIX (by omega),zEG,zGI]) (by
  unfold zRR;simp only
  rw[hl,yS,zE,Je (by omega)])
 rw[show((0:Nat):Int)=0 from rfl,Jx]at this;simp only[nw,wM,Gy]at this;rw[this,bs];rfl
abbrev enW(ws:List Nat):List Int:=ws.map fun(w:Nat)=>(w:Int)+1
theorem zCR{i:Nat}(hi:i<n):zM7 m (i:Int)=some (zU.mk m.Prime (D:Int) (m.zI.getD i [])):=by have _:=hn;have hlen:=hm.len;unfold zM7;rw[yC [] (by omega),bs,hm.d]
theorem zCS{ws:List Nat}(hw:∀w∈ws,w<n)(hl:ws.length≤1000000):zSw m (enW ws)=some (zU.mk m.Prime (D:Int) (wM m.Prime D m.zI ws (idM D))):=by
 have h7:=hm.p.pos;have h3:=hm.d3;unfold zSw;rw[hm.d,zHm hm.p (by omega),bs];have hI:∀i,Mat m.Prime D (wM m.Prime D m.zI (ws.take i) (idM D)):=fun i=>zEH (by omega) _ (zAq h7.1)
 have hel:(enW ws).length=ws.length:=by simp only[enW,Jl]
 have:=zN (body:=zKZ m (enW ws)) (r:=(m.Prime,(D:Int),wM m.Prime D m.zI ws (idM D))) (fun i=>(m.Prime,(D:Int),wM m.Prime D m.zI (ws.take i) (idM D),(i:Int))) ws.length (fun i hi=>by
  have hwi:=hw ws[i] (K9 hi);unfold zKZ;simp only
  rw[hel,yI hi,zH,wU,Ju,J3 hi];simp only[Hs];rw[bs,zD (by omega) (by omega),bs,show((ws[i]:Nat):Int)+1-1=((ws[i]:Nat):Int)from by omega,zCR hm hn hwi,bs,zHl hm.p (by omega) (hI i) (hm.mat _ hwi),bs,zD (by omega) (by omega),bs,cs,Jr hi,zEG];rfl) (by
  unfold zKZ;simp only
  rw[hel,yS,zE,Je (by omega)])
 rw[show((0:Nat):Int)=0 from rfl,Jx]at this;simp only[wM,Gy]at this;simp only
 rw[this,bs];rfl
end
theorem zB7{v:List Int}(hl:v.length≤9)(hv:∀i,i<v.length→0≤at0 v i∧at0 v i≤6):f_M v=some (enW (nw 0 v)):=by
 unfold f_M;have hlen:∀i,(nw 0 (v.take i)).length≤54:=fun i=>by
  have:=zGH 0 (v.take i) fun j hj=>by
   rw[Jt]at hj;have e:at0 (v.take i) j=at0 v j:=by simp only[at0,J2,H5];rw[if_pos (by omega)]
   rw[e];exact(hv j (by omega)).2
  rw[Jt]at this;omega
 have:=zN (body:=zSq v) (r:=enW (nw 0 v)) (fun i=>(enW (nw 0 (v.take i)),(i:Int))) v.length (fun i hi=>by
  have hvi:=hv i hi;have hli:=hlen i;unfold zSq;simp only
  rw[yI hi,zH,yE hi,bs];have inner:=zN (body:=zSp (enW (nw 0 (v.take i)),(i:Int)) (at0 v i)) (r:=enW (nw 0 (v.take (i+1)))) (fun k=>(enW (nw 0 (v.take i)++J1 k i),(k:Int))) (at0 v i).toNat (fun k hk=>by
   unfold zSp;simp only
   rw[decide_eq_true (by omega),zH,zD (by omega) (by omega),bs,yF (by simp only[Jl,J6,Jy,Jh,Lu];omega),bs,zD (by omega) (by omega),bs,cs]
   congr 3
   rw[Jac,←Jc];simp only[enW,Lg,Jk,Lr];rfl) (by
   unfold zSp;simp only
   rw[decide_eq_false (by omega),zE,zIX hi])
  rw[show((0:Nat):Int)=0 from rfl,Hp,J9]at inner;rw[inner,bs,zD (by omega) (by omega),bs,cs]) (by
  unfold zSq;simp only
  rw[yS,zE,Kl])
 rw[show((0:Nat):Int)=0 from rfl,Jx]at this;simp only[nw,enW,Lr]at this;rw[this,bs]
theorem zQO{v o:Int}(h:zSo 1 (IntKind.wrap .u64 o)=some (0,o)):zSo (IntKind.wrap .u64 (([v]:List Int).length:Int)) (IntKind.wrap .u64 o)=some (0,o):=by rw[show IntKind.wrap .u64 (([v]:List Int).length:Int)=1 from by simp;decide];exact h
theorem zKz{v o:Int}(ho:Prime o):f_h [v] o=some (J1 o.toNat v):=by
 unfold f_h;rcases ho with rfl|rfl|rfl|rfl
 ·have h:=zN (body:=qF) (r:=[v,v]) (fun i=>match i with|0=>([v,0],1)|_=>([v,v],2)) 1 (fun i hi=>by
   match i,hi with
   |0,_=>simp[qF,zQ,xU,rng,inR]) (by simp[qF])
  rw[zQO (by decide+kernel),bs];have hl:yM (IntKind.wrap .i64 2)=some 2:=by decide+kernel
  simp only[hl,bs];rw[show decide ((2:Int)<0)=false from rfl,zE,show decide ((0:Int)> 0)=false from rfl,zE,show decide ((2:Int)> 9223372036854775807)=false from by decide,zE];have e2:xU (J1 2 (0:Int)) 0 (([v]:List Int).take ((J1 2 (0:Int)).length-0))=[v,0]:=by simp[xU,J1]
  have e3:((min ([v]:List Int).length ((J1 2 (0:Int)).length-0):Nat):Int)=1:=by simp
  rw[e2,e3];have h':zF qF ([v,0],1)=_:=h;rw[h',bs];rfl
 ·have h:=zN (body:=qF) (r:=[v,v,v]) (fun i=>match i with|0=>([v,0,0],1)|1=>([v,v,0],2)|_=>([v,v,v],3)) 2 (fun i hi=>by
   match i,hi with
   |0,_=>simp[qF,zQ,xU,rng,inR]
   |1,_=>simp[qF,zQ,xU,rng,inR]) (by simp[qF])
  rw[zQO (by decide+kernel),bs];have hl:yM (IntKind.wrap .i64 3)=some 3:=by decide+kernel
  simp only[hl,bs];rw[show decide ((3:Int)<0)=false from rfl,zE,show decide ((0:Int)> 0)=false from rfl,zE,show decide ((3:Int)> 9223372036854775807)=false from by decide,zE];have e2:xU (J1 3 (0:Int)) 0 (([v]:List Int).take ((J1 3 (0:Int)).length-0))=[v,0,0]:=by simp[xU,J1]
  have e3:((min ([v]:List Int).length ((J1 3 (0:Int)).length-0):Nat):Int)=1:=by simp
  rw[e2,e3];have h':zF qF ([v,0,0],1)=_:=h;rw[h',bs];rfl
 ·have h:=zN (body:=qF) (r:=[v,v,v,v,v]) (fun i=>match i with|0=>([v,0,0,0,0],1)|1=>([v,v,0,0,0],2)|2=>([v,v,v,v,0],4)|_=>([v,v,v,v,v],5)) 3 (fun i hi=>by
   match i,hi with
   |0,_=>simp[qF,zQ,xU,rng,inR]
   |1,_=>simp[qF,zQ,xU,rng,inR]
   |2,_=>simp[qF,zQ,xU,rng,inR]) (by simp[qF])
  rw[zQO (by decide+kernel),bs];have hl:yM (IntKind.wrap .i64 5)=some 5:=by decide+kernel
  simp only[hl,bs];rw[show decide ((5:Int)<0)=false from rfl,zE,show decide ((0:Int)> 0)=false from rfl,zE,show decide ((5:Int)> 9223372036854775807)=false from by decide,zE];have e2:xU (J1 5 (0:Int)) 0 (([v]:List Int).take ((J1 5 (0:Int)).length-0))=[v,0,0,0,0]:=by simp[xU,J1]
  have e3:((min ([v]:List Int).length ((J1 5 (0:Int)).length-0):Nat):Int)=1:=by simp
  rw[e2,e3];have h':zF qF ([v,0,0,0,0],1)=_:=h;rw[h',bs];rfl
 ·have h:=zN (body:=qF) (r:=[v,v,v,v,v,v,v]) (fun i=>match i with|0=>([v,0,0,0,0,0,0],1)|1=>([v,v,0,0,0,0,0],2)|2=>([v,v,v,v,0,0,0],4)|_=>([v,v,v,v,v,v,v],7)) 3 (fun i hi=>by
   match i,hi with
   |0,_=>simp[qF,zQ,xU,rng,inR]
   |1,_=>simp[qF,zQ,xU,rng,inR]
   |2,_=>simp[qF,zQ,xU,rng,inR]) (by simp[qF])
  rw[zQO (by decide+kernel),bs];have hl:yM (IntKind.wrap .i64 7)=some 7:=by decide+kernel
  simp only[hl,bs];rw[show decide ((7:Int)<0)=false from rfl,zE,show decide ((0:Int)> 0)=false from rfl,zE,show decide ((7:Int)> 9223372036854775807)=false from by decide,zE];have e2:xU (J1 7 (0:Int)) 0 (([v]:List Int).take ((J1 7 (0:Int)).length-0))=[v,0,0,0,0,0,0]:=by simp[xU,J1]
  have e3:((min ([v]:List Int).length ((J1 7 (0:Int)).length-0):Nat):Int)=1:=by simp
  rw[e2,e3];have h':zF qF ([v,0,0,0,0,0,0],1)=_:=h;rw[h',bs];rfl
end Go.Pl

namespace Go.Pl
open Go Go.Ab Go.Wk Go.Pc
theorem IsB.b{o:Option Bool}{P:Prop}(h:IsB o P):IsB (o.bind fun r=>some r) P:=by
 rcases h with⟨h1,h2⟩|⟨h1,h2⟩
 ·exact .inl ⟨by rw[h1,bs],h2⟩
 ·exact .inr ⟨by rw[h1,bs],h2⟩
theorem zFg{p:Int}{D:Nat}{r:List Int}(hp:Prime p)(hD:D≤8):IsB (zSn r p (D:Int)) (Row p D r):=by
 have h7:=hp.pos;unfold zSn
 by_cases h:r.length=D
 ·rw[jK (by omega),zE]
  refine(sC r.length (fun i=>0≤at0 r i∧at0 r i≤p-1) rfl (fun i hi _=>?_) ?_).iff ⟨fun g=>⟨h,by rw[←h];exact g⟩,fun g=>by rw[h];exact g.2⟩
  ·refine vV (jJ _ _ _) (by omega) ?_
   unfold zOf;rw[yI hi,zH,yE hi,bs,zD (by omega) (by omega),bs]
  ·unfold zOf
   rw[yS,zE]
 ·rw[qC (by omega),zH]
  exact .inr ⟨rfl,fun g=>h g.1⟩
theorem zFh{p:Int}{D:Nat}{r:List Int}(hp:Prime p)(hD:D≤8):IsB (zRM p (D:Int) r) (Row p D r):=by
 have h7:=hp.pos;unfold zRM
 by_cases h:r.length=D
 ·rw[jK (by omega),zE]
  refine(sC r.length (fun i=>0≤at0 r i∧at0 r i≤p-1) rfl (fun i hi _=>?_) ?_).iff ⟨fun g=>⟨h,by rw[←h];exact g⟩,fun g=>by rw[h];exact g.2⟩
  ·refine vV (zBV _ _ _) (by omega) ?_
   unfold zOc;rw[yI hi,zH,yE hi,bs,zD (by omega) (by omega),bs]
  ·unfold zOc
   rw[yS,zE]
 ·rw[qC (by omega),zH]
  exact .inr ⟨rfl,fun g=>h g.1⟩
theorem zO4{p:Int}{D:Nat}{B:Mx}(hp:Prime p)(hD:D≤8):IsB (zUd p (D:Int) B) (Mat p D B):=by
 unfold zUd
 by_cases h:B.length=D
 ·rw[jK (by omega),zE]
  refine(sC B.length (fun i=>Row p D (B.getD i [])) rfl (fun i hi _=>?_) ?_).iff ⟨fun g=>⟨h,by rw[←h];exact fun i hi=>by rw[h];exact g i hi⟩,fun g=>by rw[h];exact g.2⟩
  ·refine vV (zFh hp hD) (by omega) ?_
   unfold zOd;rw[yI hi,zH,yC [] hi,bs]
  ·unfold zOd
   rw[yS,zE]
 ·rw[qC (by omega),zH]
  exact .inr ⟨rfl,fun g=>h g.1⟩
theorem zHn{p:Int}{D:Nat}{B:Mx}(hp:Prime p)(hD:D≤8)(hB:B.length=D):IsB (zUj (zU.mk p (D:Int) B)) (Mat p D B):=by
 unfold zUj;simp only
 rcases zBp p with⟨h1,_⟩|⟨_,h2⟩
 ·rw[h1,bs,Jj,zE]
  rcases jJ (D:Int) 0 8 with⟨h3,_⟩|⟨_,h4⟩
  ·rw[h3,bs,Jj,zE,decide_eq_false (by omega),zE]
   refine(sC (body:=zKV (zU.mk p (D:Int) B)) D (fun i=>Row p D (B.getD i [])) rfl (fun i hi _=>?_) ?_).iff ⟨fun g=>⟨hB,g⟩,fun g=>g.2⟩
   ·refine vV (zFg hp hD) (by omega) ?_
    unfold zKV;simp only
    rw[hB,yI hi,zH,yC [] (by omega),bs]
   ·unfold zKV
    simp only
    rw[hB,yS,zE]
  ·exact absurd (by omega) h4
 ·exact absurd hp h2
theorem zGJ{A B:Mx}(hA:A.length≤1000)(h:∀r∈A,r.length≤1000):zUe A B=some (A==B):=
 zHO (t:=zJn) (body:=zRS A B) rfl (fun _=>rfl) (by omega) fun u hu v _=>zO2 (by have:=h u hu;omega)
theorem zHo{A B:Mx}(hA:A.length≤1000)(h:∀r∈A,r.length≤1000):zUl A B=some (A==B):=by unfold zUl;rw[zHO (f:=zWA A B) (t:=f_X) (body:=zSx A B) rfl (fun _=>rfl) (by omega) fun u hu v _=>zDr (by have:=h u hu;omega),bs]
theorem Mat.small{p:Int}{D:Nat}{A:Mx}(h:Mat p D A)(hD:D≤8):A.length≤1000∧ ∀r∈A,r.length≤1000:=by refine⟨by have:=h.1;omega,fun r hr=>?_⟩;obtain⟨i,hi,rfl⟩:=Ks.1 hr;have:=h.2 i (by rw[←h.1];exact hi);rw[J2,J3 hi]at this;have:=this.1;simp only[Q2]at this;omega
def zHp(x:SPr)(m:zC)(D:Nat):Prop:=
 ∀i,i<x.zA.length→wM m.Prime D m.zI (J1 (at0 x.zA i).toNat i) (idM D)=wM m.Prime D m.zI (nw 0 (x.zT.getD i [])) (idM D)∧
  ∀j,i+1≤j→j<x.zA.length→PM m.Prime D (m.zI.getD j []) (m.zI.getD i [])=PM m.Prime D (m.zI.getD i []) (wM m.Prime D m.zI (nw 0 ((x.zB.getD i []).getD (j-(i+1)) [])) (idM D))
theorem uW{x:SPr}{v:List Int}{i:Nat}(ho:Os x.zA)(h:Exp x.zA v i):v.length=x.zA.length∧ ∀j,j<x.zA.length→0≤at0 v j∧at0 v j≤6:=by have h1:=h.1.1;refine⟨h1,fun j hj=>?_⟩;have:=h.1.2 j (by omega);have:=(ho.2 j hj).pos;omega
section
variable {x:SPr}{m:zC}{D:Nat} (h:Pres x) (hm:MOk x.zA.length m D)
 include h hm
theorem zO5{i:Nat}(hi:i<x.zA.length):(x.zT.getD i []).length=x.zA.length∧ ∀j,j<x.zA.length→0≤at0 (x.zT.getD i []) j∧at0 (x.zT.getD i []) j≤6:=have _:=hm;uW h.os (h.tl i hi).1
theorem zLU{i j:Nat}(hi:i<x.zA.length)(hj:j<(x.zB.getD i []).length):((x.zB.getD i []).getD j []).length=x.zA.length∧ ∀q,q<x.zA.length→0≤at0 ((x.zB.getD i []).getD j []) q∧at0 ((x.zB.getD i []).getD j []) q≤6:=have _:=hm;uW h.os ((h.tl i hi).2.2 j hj)
theorem zO6:IsB ((zF (zRW x m) 0).bind fun r=>match r with|.inl _=>some true|.inr r=>some r) (zHp x m D):=by
 have h6:=h.os.1;have h7:=hm.p.pos;have h3:=hm.d3;have hlen:=hm.len;refine sC x.zA.length (fun i=>wM m.Prime D m.zI (J1 (at0 x.zA i).toNat i) (idM D)=wM m.Prime D m.zI (nw 0 (x.zT.getD i [])) (idM D)∧
  ∀j,i+1≤j→j<x.zA.length→PM m.Prime D (m.zI.getD j []) (m.zI.getD i [])=PM m.Prime D (m.zI.getD i []) (wM m.Prime D m.zI (nw 0 ((x.zB.getD i []).getD (j-(i+1)) [])) (idM D))) rfl (fun i hi _=>?_) ?_
 ·have hpr:=(h.os.2 i hi).pos
  have hpl:=h.pl;have hcl:=h.cl;obtain⟨p1,p2⟩:=zO5 h hm hi;have t2:=(h.tl i hi).2.1;have hI:=zAq (p:=m.Prime) (D:=D) h7.1;unfold zRW;rw[yI hi,zH,hm.d,zGG hm.p (by omega),bs];rw[wT (S:=Mat m.Prime D) (body:=zRU x m (i:Int)) (fun B=>B) (fun B=>PM m.Prime D B (m.zI.getD i [])) (at0 x.zA i) (by omega) (fun B hB=>zCe (by omega) hB.1) (fun B q hB hq=>by
   unfold zRU;simp only
   rw[yE hi,bs,decide_eq_true hq,zH,yC [] (by omega),bs,hm.d,qY hm.p (by omega) hB (hm.mat i hi),bs,zD (by omega) (by omega),bs,cs]) (fun B hB=>by
   unfold zRU;simp only
   rw[yE hi,bs,decide_eq_false (by omega),zE]) hI,bs,yC [] (by omega),bs,zKy hm (by omega) p1 p2,bs,←zGI]
  have hs:=(zEH (p:=m.Prime) (D:=D) (A:=m.zI) (by omega) (J1 (at0 x.zA i).toNat i) hI).small (by omega);rw[zGJ hs.1 hs.2,bs]
  by_cases hq:wM m.Prime D m.zI (J1 (at0 x.zA i).toNat i) (idM D)=wM m.Prime D m.zI (nw 0 (x.zT.getD i [])) (idM D)
  ·rw[show(wM m.Prime D m.zI (J1 (at0 x.zA i).toNat i) (idM D)==wM m.Prime D m.zI (nw 0 (x.zT.getD i [])) (idM D))=true from by rw[beq_iff_eq];exact hq,Jj,zE,zD (by omega) (by omega),bs,cs]
   rcases chk (body:=zRV x m (i:Int)) x.zA.length (i+1) (by omega) (fun j=>PM m.Prime D (m.zI.getD j []) (m.zI.getD i [])=PM m.Prime D (m.zI.getD i []) (wM m.Prime D m.zI (nw 0 ((x.zB.getD i []).getD (j-(i+1)) [])) (idM D))) (fun _=>false) (fun j h1 h2 _=>by
     obtain⟨c1,c2⟩:=zLU h hm (j:=j-(i+1)) hi (by omega);have hjm:=hm.mat j h2;have him:=hm.mat i hi;have hw:=zEH (p:=m.Prime) (D:=D) (A:=m.zI) (by omega) (nw 0 ((x.zB.getD i []).getD (j-(i+1)) [])) hI;have hs:=(zCe (p:=m.Prime) (B:=m.zI.getD i []) (by omega) hjm.1).small (by omega);refine vV (o:=some (PM m.Prime D (m.zI.getD j []) (m.zI.getD i [])==PM m.Prime D (m.zI.getD i []) (wM m.Prime D m.zI (nw 0 ((x.zB.getD i []).getD (j-(i+1)) [])) (idM D)))) (IsB.of_bool (by rw[beq_iff_eq])) (by omega) ?_;unfold zRV;rw[yI h2,zH,yC (i:=j) [] (by omega),bs,yC (i:=i) [] (by omega),bs,hm.d,qY hm.p (by omega) hjm him,bs,bs,yC (i:=i) [] (by omega),bs,zD (by omega) (by omega),bs,zD (by omega) (by omega),bs,show(j:Int)-(i:Int)-1=((j-(i+1):Nat):Int)from by omega,yC [] (by omega),bs,zKy hm (by omega) c1 c2,bs,qY hm.p (by omega) him hw,bs,zGJ hs.1 hs.2]) (by
     unfold zRV;rw[yS,zE])with⟨g1,g2⟩|⟨j,j1,j2,g1,g2⟩
   ·left
    rw[g1,bs,bs];exact⟨rfl,hq,g2⟩
   ·right
    rw[g1,bs];exact⟨rfl,fun g=>g2 (g.2 j j1 j2)⟩
  ·rw[show(wM m.Prime D m.zI (J1 (at0 x.zA i).toNat i) (idM D)==wM m.Prime D m.zI (nw 0 (x.zT.getD i [])) (idM D))=false from by rw[beq_eq_false_iff_ne];exact hq,Js,zH]
   exact .inr ⟨rfl,fun g=>hq g.1⟩
 ·unfold zRW
  rw[yS,zE]
end
def zVi(x:SPr)(m:zC):Prop:=zBr x∧ ∃D,MOk x.zA.length m D∧zHp x m D
theorem zHq{x:SPr}{m:zC}(hl:x.zA.length≤1048576):IsB (zUf x m) (zVi x m):=by
 unfold zUf;rcases zLS hl with⟨h1,h2⟩|⟨h1,h2⟩
 ·have h6:=h2.1.os.1
  rw[h1,bs,zH];unfold f_r;rcases zG6 m.Prime with⟨p1,p2⟩|⟨p1,p2⟩
  ·rw[p1,bs,Jj,zE]
   rcases zBV m.Dim 1 3 with⟨d1,d2⟩|⟨d1,d2⟩
   ·rw[d1,bs,Jj,zE]
    obtain⟨D,hD⟩:∃D:Nat,m.Dim=(D:Int):=⟨m.Dim.toNat,by omega⟩
    by_cases hlen:m.zI.length=x.zA.length
    ·rw[jK (by omega),zE]
     rcases chk (body:=zRT x m) x.zA.length 0 (K4 _) (fun i=>Mat m.Prime D (m.zI.getD i [])) (fun _=>false) (fun i _ hi _=>by
       refine vV (zO4 p2 (D:=D) (by omega)) (by omega) ?_;unfold zRT;rw[yI hi,zH,yC [] (by omega),bs,hD]) (by
       unfold zRT;rw[yS,zE])with⟨g1,g2⟩|⟨i,_,hi,g1,g2⟩
     ·rw[show((0:Nat):Int)=0 from rfl]at g1
      have hm:MOk x.zA.length m D:=⟨p2,hD,by omega,by omega,hlen,fun i hi=>g2 i (K4 _) hi⟩;rw[g1,bs];refine(zO6 h2.1 hm).b.iff ⟨fun k2=>⟨h2,D,hm,k2⟩,fun⟨_,D',hm',hr⟩=>?_⟩;have:D'=D:=by have:=hm'.d;omega
      rw[←this];exact hr
     ·rw[show((0:Nat):Int)=0 from rfl]at g1
      rw[g1,bs];refine .inr ⟨rfl,fun⟨_,D',hm',_⟩=>g2 ?_⟩;have:D'=D:=by have:=hm'.d;omega
      rw[←this];exact hm'.mat i hi
    ·rw[qC (by omega),zH]
     exact .inr ⟨rfl,fun⟨_,D',hm',_⟩=>hlen hm'.len⟩
   ·rw[d1,bs,Js,zH]
    exact .inr ⟨rfl,fun⟨_,D',hm',_⟩=>d2 (by have:=hm'.d;have:=hm'.d1;have:=hm'.d3;omega)⟩
  ·rw[p1,bs,Js,zH]
   exact .inr ⟨rfl,fun⟨_,D',hm',_⟩=>p2 hm'.p⟩
 ·rw[h1,bs,zE]
  exact .inr ⟨rfl,fun g=>h2 g.1⟩
end Go.Pl

namespace Go.Pl
open Go Go.Ab Go.Wk Go.Pc
abbrev Rl:=List Nat×List Nat
def r1(x:SPr)(i:Nat):Rl:=(J1 (at0 x.zA i).toNat i,nw 0 (x.zT.getD i []))
def r2(x:SPr)(i j:Nat):Rl:=([i+j+1,i],i::nw 0 ((x.zB.getD i []).getD j []))
def R2(x:SPr)(i:Nat):List Rl:=(Jq (x.zB.getD i []).length).map (r2 x i)
def xN(x:SPr):List Rl:=(Jq x.zA.length).map (r1 x)++(Jq x.zA.length).flatMap (R2 x)
abbrev enR(q:Rl):List Int×List Int:=(enW q.1,enW q.2)
section
variable {x:SPr} (h:Pres x)
 include h
theorem zQP{i:Nat}(hi:i<x.zA.length):(R2 x i).length≤9:=by have:=(h.tl i hi).2.1;have:=h.os.1;simp only[R2,Jl,L9];omega
theorem zGK:∀i,i≤x.zA.length→((Jq i).flatMap (R2 x)).length≤9*i
 |0,_=>by simp
 |i+1,hi=>by have:=zGK i (by omega);have:=zQP h (i:=i) (by omega);rw[Kv,L8,J6];simp only[Ls,Ga,J9];omega
theorem zTB{k i:Nat}:enW (J1 k i)=J1 k ((i:Int)+1):=by have _:=h;simp[enW]
theorem kZ:f_y x=some ((xN x).map enR):=by
 have h6:=h.os.1;have hpl:=h.pl;have hcl:=h.cl;unfold f_y;have l1:=zN (body:=zSr x) (r:=((Jq x.zA.length).map (r1 x)).map enR) (fun i=>(((Jq i).map (r1 x)).map enR,(i:Int))) x.zA.length (fun i hi=>by
  obtain⟨p1,p2⟩:=uW h.os (h.tl i hi).1;unfold zSr;simp only
  rw[yI hi,zH,yE hi,bs,zD (by omega) (by omega),bs,zKz (h.os.2 i hi),bs,yC [] (by omega),bs,zB7 (by omega) (by rw[p1];exact p2),bs,yF (by simp only[Jl,L9,Jh,Lu];omega),bs,bs,cs,Kv];simp only[Lg,Jk,Lr,r1,enR,zTB h,cs]) (by
  unfold zSr;simp only
  rw[yS,zE])
 rw[show((0:Nat):Int)=0 from rfl]at l1;simp only[Gj,Lr]at l1;rw[l1,bs];have l3:=zN (body:=zSt x) (r:=(xN x).map enR) (fun i=>(((Jq x.zA.length).map (r1 x)++(Jq i).flatMap (R2 x)).map enR,(i:Int))) x.zA.length (fun i hi=>by
  have t2:=(h.tl i hi).2.1;have hfm:=zGK h i (by omega);unfold zSt;simp only
  rw[yI hi,zH,yC [] (by omega),bs];have l2:=zN (body:=zSs (((Jq x.zA.length).map (r1 x)++(Jq i).flatMap (R2 x)).map enR,(i:Int)) (x.zB.getD i [])) (r:=((Jq x.zA.length).map (r1 x)++(Jq (i+1)).flatMap (R2 x)).map enR)
   (fun j=>(((Jq x.zA.length).map (r1 x)++(Jq i).flatMap (R2 x)++(Jq j).map (r2 x i)).map enR,(j:Int))) (x.zB.getD i []).length (fun j hj=>by
    obtain⟨p1,p2⟩:=uW h.os ((h.tl i hi).2.2 j hj);have hnl:=zGH 0 ((x.zB.getD i []).getD j []) (by rw[p1];exact fun i hi=>(p2 i hi).2);unfold zSs;simp only
    rw[yI hj,zH,yC [] hj,bs,zD (by omega) (by omega),bs,zD (by omega) (by omega),bs,zD (by omega) (by omega),bs,zB7 (by omega) (by rw[p1];exact p2),bs,yF (by simp only[Jl,Jh,Lu];omega),bs,yF (by simp only[Jl,J6,L9,Jh,Lu];omega),bs,zD (by omega) (by omega),bs,cs,Kv];have e1:(i:Int)+(j:Int)+2=((i+j+1:Nat):Int)+1:=by omega
    simp only[Lg,Jk,Lr,r2,enR,enW,Jc,Lx,e1];rfl) (by
    unfold zSs;simp only
    rw[yS,zE,Kv,L8];simp only[Ls,Ga,J9,Jc,R2])
  rw[show((0:Nat):Int)=0 from rfl]at l2;simp only[Gj,Lr,J9]at l2;rw[l2,bs,zD (by omega) (by omega),bs,cs]) (by
  unfold zSt;simp only
  rw[yS,zE];rfl)
 rw[show((0:Nat):Int)=0 from rfl]at l3;simp only[Gj,Ga,J9]at l3;rw[l3,bs]
theorem zHY{q:Rl}(hq:q∈xN x):((∀w∈q.1,w<x.zA.length)∧q.1.length≤1000)∧(∀w∈q.2,w<x.zA.length)∧q.2.length≤1000:=by
 have h6:=h.os.1;simp only[xN,Lf,Jg,Lb,Uf,R2]at hq;rcases hq with⟨i,hi,rfl⟩|⟨i,hi,j,hj,rfl⟩
 ·obtain⟨p1,p2⟩:=uW h.os (h.tl i hi).1
  have hnl:=zGH 0 (x.zT.getD i []) (by rw[p1];exact fun i hi=>(p2 i hi).2);have hpr:=(h.os.2 i hi).pos;refine⟨⟨fun w hw=>?_,?_⟩,fun w hw=>zQM 0 _ (by omega) w hw,by simp only[r1];omega⟩
  ·have:=Qg hw;omega
  ·simp only[r1,Jy];omega
 ·obtain⟨p1,p2⟩:=uW h.os ((h.tl i hi).2.2 j hj)
  have t2:=(h.tl i hi).2.1;have hnl:=zGH 0 ((x.zB.getD i []).getD j []) (by rw[p1];exact fun i hi=>(p2 i hi).2);refine⟨⟨fun w hw=>?_,by simp[r2]⟩,fun w hw=>?_,by simp only[r2,Jh];omega⟩
  ·simp only[r2,Jv,List.not_mem_nil,or_false]at hw;omega
  ·simp only[r2,Jv]at hw
   rcases hw with rfl|hw
   ·exact hi
   ·exact zQM 0 _ (by omega) w hw
variable {m:zC}{D:Nat} (hm:MOk x.zA.length m D)
 include hm
theorem zK0:(∀q∈xN x,wM m.Prime D m.zI q.1 (idM D)=wM m.Prime D m.zI q.2 (idM D))↔zHp x m D:=by
 have h7:=hm.p.pos;have hI:=zAq (p:=m.Prime) (D:=D) h7.1;have key:∀i j,i<x.zA.length→j<x.zA.length→ ∀ws,(wM m.Prime D m.zI [j,i] (idM D)=wM m.Prime D m.zI (i::ws) (idM D)↔PM m.Prime D (m.zI.getD j []) (m.zI.getD i [])=PM m.Prime D (m.zI.getD i []) (wM m.Prime D m.zI ws (idM D))):=fun i j hi hj ws=>by
  have hi':=hm.mat i hi;have hj':=hm.mat j hj;have e1:wM m.Prime D m.zI [j,i] (idM D)=PM m.Prime D (m.zI.getD j []) (m.zI.getD i []):=by show PM _ _ (PM _ _ (idM D) _) _=_;rw[zIV hj']
  have e2:wM m.Prime D m.zI (i::ws) (idM D)=PM m.Prime D (m.zI.getD i []) (wM m.Prime D m.zI ws (idM D)):=by show wM _ _ _ ws (PM _ _ (idM D) _)=_;rw[zIV hi',←zQN (by omega) hi'.1 ws hI,zKt hi']
  rw[e1,e2]
 constructor
 ·intro g i hi
  have t2:=(h.tl i hi).2.1;refine⟨g (r1 x i) (by simp only[xN,Lf,Jg,Lb];exact .inl ⟨i,hi,rfl⟩),fun j h1 h2=>?_⟩;have:=g (r2 x i (j-(i+1))) (by simp only[xN,Lf,Uf,Lb,R2,Jg];exact .inr ⟨i,hi,j-(i+1),by omega,rfl⟩)
  simp only[r2]at this;rw[show i+(j-(i+1))+1=j from by omega]at this;exact(key i j hi h2 _).1 this
 ·intro g q hq
  simp only[xN,Lf,Jg,Lb,Uf,R2]at hq;rcases hq with⟨i,hi,rfl⟩|⟨i,hi,j,hj,rfl⟩
  ·exact(g i hi).1
  ·have t2:=(h.tl i hi).2.1
   have:=(g i hi).2 (i+j+1) (by omega) (by omega);rw[show i+j+1-(i+1)=j from by omega]at this;exact(key i (i+j+1) hi (by omega) _).2 this
theorem zO7:IsB ((zF (zSz m ((xN x).map enR)) 0).bind fun r=>match r with|.inl _=>some true|.inr r=>some r) (zHp x m D):=by
 have h6:=h.os.1;have h7:=hm.p.pos;have h3:=hm.d3;have hI:=zAq (p:=m.Prime) (D:=D) h7.1;have hfm:=zGK h x.zA.length (Ji _);have hrl:(xN x).length≤1000:=by simp only[xN,J6,Jl,L9];omega
 refine(sC (xN x).length (fun k=>wM m.Prime D m.zI ((xN x).getD k ([],[])).1 (idM D)=wM m.Prime D m.zI ((xN x).getD k ([],[])).2 (idM D)) rfl (fun k hk _=>?_) ?_).iff ⟨fun g=>(zK0 h hm).1 fun q hq=>?_,fun g k hk=>(zK0 h hm).2 g _ ?_⟩
 ·have hmem:(xN x).getD k ([],[])∈xN x:=by
   rw[J2,J3 hk];exact K9 hk
  obtain⟨⟨g1,g2⟩,g3,g4⟩:=zHY h hmem;have hs:=(zEH (p:=m.Prime) (D:=D) (A:=m.zI) (by omega) ((xN x).getD k ([],[])).1 hI).small (by omega);refine vV (o:=some (wM m.Prime D m.zI ((xN x).getD k ([],[])).1 (idM D)==wM m.Prime D m.zI ((xN x).getD k ([],[])).2 (idM D))) (IsB.of_bool (by rw[beq_iff_eq])) (by omega) ?_;unfold zSz;rw[Jl,yI hk,zH,wU,Ju,J3 hk];rw[J2,J3 hk]at g1 g2 g3 g4 hs ⊢
  simp only[Hs,Q2]at g1 g2 g3 g4 hs ⊢
  rw[bs,zCS hm h6 g1 (Kt g2 (by omega)),bs,zCS hm h6 g3 (Kt g4 (by omega)),bs];simp only
  rw[zHo hs.1 hs.2]
 ·unfold zSz
  rw[Jl,yS,zE]
 ·obtain⟨k,hk,rfl⟩:=Ks.1 hq
  have:=g k hk;rw[J2,J3 hk]at this;exact this
 ·rw[J2,J3 hk];exact K9 hk
end
theorem zHr{x:SPr}{m:zC}(hl:x.zA.length≤1048576)(_hal:m.zI.length≤1048576):IsB (f_E x m) (zVi x m):=by
 unfold f_E;rcases zDR hl with⟨h1,h2⟩|⟨h1,h2⟩
 ·have h6:=h2.1.os.1
  rw[h1,bs,Jj,zE];rcases zBp m.Prime with⟨p1,p2⟩|⟨p1,p2⟩
  ·rw[p1,bs,Jj,zE]
   rcases jJ m.Dim 1 3 with⟨d1,d2⟩|⟨d1,d2⟩
   ·rw[d1,bs,Jj,zE]
    obtain⟨D,hD⟩:∃D:Nat,m.Dim=(D:Int):=⟨m.Dim.toNat,by omega⟩
    by_cases hlen:m.zI.length=x.zA.length
    ·rw[jK (by omega),zE]
     rcases chk (body:=zSy m) m.zI.length 0 (K4 _) (fun i=>Mat m.Prime D (m.zI.getD i [])) (fun _=>false) (fun i _ hi _=>by
       unfold zSy;rw[yI hi,zH,yC [] hi,bs,hD]
       by_cases hr:(m.zI.getD i []).length=D
       ·rw[jK (by omega),zE]
        refine vV (zHn p2 (D:=D) (by omega) hr) (by omega) ?_;unfold zM7;rw[yC [] hi,bs,bs,hD]
       ·rw[qC (by omega),zH]
        exact .inr ⟨rfl,fun g=>hr g.1⟩) (by
       unfold zSy;rw[yS,zE])with⟨g1,g2⟩|⟨i,_,hi,g1,g2⟩
     ·rw[show((0:Nat):Int)=0 from rfl]at g1
      have hm:MOk x.zA.length m D:=⟨p2,hD,by omega,by omega,hlen,fun i hi=>g2 i (K4 _) (by omega)⟩;rw[g1,bs,kZ h2.1];simp only
      rw[bs];refine(zO7 h2.1 hm).iff ⟨fun k2=>⟨h2,D,hm,k2⟩,fun⟨_,D',hm',hr⟩=>?_⟩;have:D'=D:=by have:=hm'.d;omega
      rw[←this];exact hr
     ·rw[show((0:Nat):Int)=0 from rfl]at g1
      rw[g1,bs];refine .inr ⟨rfl,fun⟨_,D',hm',_⟩=>g2 ?_⟩;have:D'=D:=by have:=hm'.d;omega
      rw[←this];exact hm'.mat i (by omega)
    ·rw[qC (by omega),zH]
     exact .inr ⟨rfl,fun⟨_,D',hm',_⟩=>hlen hm'.len⟩
   ·rw[d1,bs,Js,zH]
    exact .inr ⟨rfl,fun⟨_,D',hm',_⟩=>d2 (by have:=hm'.d;have:=hm'.d1;have:=hm'.d3;omega)⟩
  ·rw[p1,bs,Js,zH]
   exact .inr ⟨rfl,fun⟨_,D',hm',_⟩=>p2 hm'.p⟩
 ·rw[h1,bs,Js,zH]
  exact .inr ⟨rfl,fun g=>h2 g.1⟩
end Go.Pl

namespace Go.Pl
open Go Go.Ab Go.Wk Go.Pc
theorem zEI{xs:List (List Int)}{i:Nat}(h:i<xs.length):(xs.take (i+1)).flatten=(xs.take i).flatten++xs.getD i []:=by rw[Jr h,Ui,J2,J3 h];simp
theorem zIY{xs:List (List Int)}(i:Nat):(xs.take i).flatten.length≤xs.flatten.length:=by
 have:xs.flatten=(xs.take i).flatten++(xs.drop i).flatten:=by rw[←Ui,Jas]
 rw[this,J6];omega
theorem zO8{k:Nat}(hk:k≤1000000):zS0 (k:Int)=some []:=by
 unfold zS0;rw[decide_eq_false (by omega),zE,zD (by decide) (by decide),bs,zD (by omega) (by omega),bs]
 by_cases h:(k:Int)-(0-0)> 0
 ·rw[decide_eq_true h,zH]
  have e:wI ([]:List Int) ((k:Int)-(0-0)) 0=some (J1 k 0):=by unfold wI;rw[if_pos (by simp;omega)];simp
  rw[e,bs];rfl
 ·rw[decide_eq_false h,zE]
theorem jM{xs:List (List Int)}(hx:xs.length≤1000)(hf:xs.flatten.length≤1000000):f_q xs=some xs.flatten:=by
 unfold f_q;have l1:=zN (body:=zS1 xs) (r:=((xs.flatten.length:Nat):Int)) (fun i=>((((xs.take i).flatten.length:Nat):Int),(i:Int))) xs.length (fun i hi=>by
  have h1:=zEI hi;have h2:=zIY (xs:=xs) (i+1);have h3:=congrArg Jcw h1;rw[J6]at h3;unfold zS1;simp only
  rw[yI hi,zH,yC [] hi,bs,zD (by omega) (by omega),bs,decide_eq_false (by omega),zE,zD (by omega) (by omega),bs,cs,h3]
  congr 3) (by
  unfold zS1;simp only
  rw[yS,zE,Kl])
 rw[show((0:Nat):Int)=0 from rfl]at l1;simp only[Jx,U8,Lu]at l1;rw[show((0:Nat):Int)=0 from rfl]at l1;rw[l1,bs,zO8 hf,bs];have l2:=zN (body:=zS2 xs) (r:=xs.flatten) (fun i=>((xs.take i).flatten,(i:Int))) xs.length (fun i hi=>by
  have h1:=zEI hi;have h2:=zIY (xs:=xs) (i+1);have h3:=congrArg Jcw h1;rw[J6]at h3;unfold zS2;simp only
  rw[yI hi,zH,yC [] hi,bs,yF (by omega),bs,zD (by omega) (by omega),bs,cs,h1]) (by
  unfold zS2;simp only
  rw[yS,zE,Kl])
 rw[show((0:Nat):Int)=0 from rfl]at l2;simp only[Jx,U8]at l2;rw[l2,bs]
theorem zK1{r:List Int}{a b:Nat}(hr:r.length≤1000)(ha:a≤1000)(hb:b≤1000):zS3 r (a:Int) (b:Int)=some (J1 a 0++(r++J1 b 0)):=by unfold zS3;rw[yO (by omega),bs,yO (by omega),bs,jM (by simp) (by simp;omega),bs];simp
end Go.Pl

namespace Go.Pl
open Go Go.Ab Go.Wk Go.Pc
section
variable {p:Int}
def xK(p:Int)(D:Nat)(r:List Int)(k:Int)(s:List Int):List Int:=mkv D fun j=>(at0 r j+k*at0 s j)%p
theorem zAU{D:Nat}{r s:List Int}{k:Int}:(xK p D r k s).length=D:=zZ _ _
def zHs(p:Int)(D i:Nat)(r:List Int)(k:Int)(s:List Int):List Int:=mkv D fun j=>if j<i then(at0 r j+k*at0 s j)%p else at0 r j
theorem zHZ{D:Nat}{r s:List Int}{k:Int}(hr:r.length=D):zHs p D 0 r k s=r:=by
 conv=>rhs;rw[wY hr]
 exact zW fun j _=>by rw[if_neg (by omega)]
theorem zIa{D:Nat}{r s:List Int}{k:Int}:zHs p D D r k s=xK p D r k s:=zW fun j hj=>by rw[if_pos hj]
theorem zK2{D i:Nat}{r s:List Int}{k a:Int}(ha:a=(at0 r i+k*at0 s i)%p):(zHs p D i r k s).set i a=zHs p D (i+1) r k s:=by
 simp only[zHs];rw[qX];refine zW fun j _=>?_
 by_cases h:j=i
 ·subst h;rw[if_pos rfl,if_pos (by omega),ha]
 ·rw[if_neg h]
  by_cases h2:j<i
  ·rw[if_pos h2,if_pos (by omega)]
  ·rw[if_neg h2,if_neg (by omega)]
theorem zNL{D i:Nat}{r s:List Int}{k:Int}(hi:i<D):at0 (zHs p D i r k s) i=at0 r i:=by rw[zHs,yB hi,if_neg (by omega)]
theorem zDS{D i:Nat}{r s:List Int}{k:Int}:(zHs p D i r k s).length=D:=zZ _ _
end
section
variable {p:Int} (hp:Prime p)
 include hp
theorem zFi{a:Int}(_h0:-1000≤a)(_h1:a≤1000):zHu a p=some (a%p):=by
 have h7:=hp.pos;have e1:=Jau a (show 0<p by omega);have e2:=Jav a (show 0<p by omega);have e3:(Jbb a p+p)%p=a%p:=by
  rw[U9];have:=Jah a p
  conv=>rhs;rw[←this]
  rw[Ky]
 unfold zHu vF;rw[if_neg (by omega),bs,zD (by omega) (by omega),bs,if_neg (by omega),bs,Lj (by omega),e3]
theorem zK3{a:Int}(_h0:-1000≤a)(_h1:a≤1000):zSE a p=some (a%p):=by
 have h7:=hp.pos;have e1:=Jau a (show 0<p by omega);have e2:=Jav a (show 0<p by omega);have e3:(Jbb a p+p)%p=a%p:=by
  rw[U9];have:=Jah a p
  conv=>rhs;rw[←this]
  rw[Ky]
 unfold zSE vF;rw[if_neg (by omega),bs]
 by_cases h:Jbb a p<0
 ·rw[decide_eq_true h,zH,zD (by omega) (by omega),bs,←e3,K6 (by omega) (by omega)]
 ·rw[decide_eq_false h,zE,←e3,U9,K6 (by omega) (by omega)]
theorem tP{D:Nat}{r s:List Int}{k:Int}:Row p D (xK p D r k s):=by have h7:=hp.pos;refine⟨zZ _ _,fun i hi=>?_⟩;have e:at0 (xK p D r k s) i=(at0 r i+k*at0 s i)%p:=yB hi;have e1:=Lm (at0 r i+k*at0 s i) (show p≠0 by omega);have e2:=Kx (at0 r i+k*at0 s i) (show 0<p by omega);rw[e];omega
theorem zBt{k b:Int}(hk:-7≤k∧k≤7)(hb:0≤b∧b≤p-1):-49≤k*b∧k*b≤49:=by
 have h7:=hp.pos;rcases Int.le_total 0 k with h|h
 ·have h1:=U0 h hb.1
  have h2:=H2 hk.2 (show b≤7 by omega) hb.1 (by omega);omega
 ·have h1:=U0 (show 0≤ -k by omega) hb.1
  have h2:=H2 (show -k≤7 by omega) (show b≤7 by omega) hb.1 (by omega);rw[Int.neg_mul]at h1 h2;omega
theorem sT{D:Nat}{r s:List Int}{k:Int}(hr:Row p D r)(hs:Row p D s)(hk:-7≤k∧k≤7)(hD:D≤1000000):f_t r s k p=some (xK p D r k s):=by
 have h7:=hp.pos;have:=zN (body:=zKW r s k p) (r:=xK p D r k s) (fun i=>(zHs p D i r k s,(i:Int))) D (fun i hi=>by
  have a1:=hr.2 i hi;have a2:=hs.2 i hi;have a3:=zBt hp hk a2;unfold zKW;simp only
  rw[hr.1,yI hi,zH,yE (by rw[zDS];exact hi),bs,yE (by rw[hs.1];exact hi),bs,zD (by omega) (by omega),bs,zNL hi,zD (by omega) (by omega),bs,zFi hp (by omega) (by omega),bs,bs,zD (by omega) (by omega),bs,cs,J7,zK2 rfl]) (by
  unfold zKW;simp only
  rw[hr.1,yS,zE,zIa])
 rw[show((0:Nat):Int)=0 from rfl,zHZ hr.1]at this;unfold f_t;rw[this,bs]
theorem wZ{D:Nat}{r s:List Int}{k:Int}(hr:Row p D r)(hs:Row p D s)(hk:-7≤k∧k≤7)(hD:D≤1000000):f_n p r k s=some (xK p D r k s):=by
 have h7:=hp.pos;have:=zN (body:=zSF p k s) (r:=xK p D r k s) (fun i=>(zHs p D i r k s,(i:Int))) D (fun i hi=>by
  have a1:=hr.2 i hi;have a2:=hs.2 i hi;have a3:=zBt hp hk a2;unfold zSF;simp only
  rw[zDS,yI hi,zH,hs.1,yI hi,zH,yE (by rw[zDS];exact hi),bs,yE (by rw[hs.1];exact hi),bs,zD (by omega) (by omega),bs,zNL hi,zD (by omega) (by omega),bs,zK3 hp (by omega) (by omega),bs,bs,zD (by omega) (by omega),bs,cs,J7,zK2 rfl]) (by
  unfold zSF;simp only
  rw[zDS,yS,zE,zIa])
 rw[show((0:Nat):Int)=0 from rfl,zHZ hr.1]at this;unfold f_n;rw[tN (by rw[hr.1];omega),bs,this,bs]
end
theorem zAa{p:Int}{D:Nat}{r s:List Int}:xK p D r (p-1) s=xK p D r (-1) s:=zW fun j _=>by rw[show at0 r j+(p-1)*at0 s j=at0 r j+ -1*at0 s j+p*at0 s j from by rw[Qn];omega,Ky]
theorem zO9{p:Int}{D:Nat}{r s:List Int}(hr:Row p D r)(hs:Row p D s):(∀j,j<D→at0 (xK p D r (-1) s) j=0)↔r=s:=by
 constructor
 ·intro h
  rw[wY hr.1,wY hs.1];refine zW fun j hj=>?_
  have h1:=h j hj;rw[xK,yB hj]at h1;have a1:=hr.2 j hj;have a2:=hs.2 j hj;obtain⟨c,hc⟩:=Int.dvd_of_emod_eq_zero h1;have:c=0:=by
   rcases Int.lt_trichotomy c 0 with h|h|h
   ·have:=G9 (show c≤ -1 by omega) (show 0≤p by omega);omega
   ·exact h
   ·have:=G9 (show 1≤c by omega) (show 0≤p by omega);omega
  rw[this]at hc;omega
 ·rintro rfl j hj
  rw[xK,yB hj,show at0 r j+ -1*at0 r j=0 from by omega];simp
end Go.Pl

namespace Go.Pl
open Go Go.Ab Go.Wk Go.Pc
def VOk(n:Nat)(p:Int)(D:Nat)(vals:Mx):Prop:=vals.length=n∧ ∀i,i<n→Row p D (vals.getD i [])
def stp(m:zC)(D:Nat)(vals:Mx)(v:List Int)(w:Nat):List Int:=xK m.Prime D (tO m.Prime D v (m.zI.getD w [])) 1 (vals.getD w [])
def ev(m:zC)(D:Nat)(vals:Mx)(v:List Int)(ws:List Nat):List Int:=ws.foldl (stp m D vals) v
theorem zIb{m:zC}{D:Nat}{vals:Mx}{v:List Int}{a b:List Nat}:ev m D vals v (a++b)=ev m D vals (ev m D vals v a) b:=by simp[ev,Jat]
theorem zIZ{m:zC}{D:Nat}{vals:Mx}{w:Nat}:∀(k:Nat)(v:List Int),ev m D vals v (J1 k w)=iter k (fun v=>stp m D vals v w) v
 |0,_=>rfl
 |k+1,v=>by rw[Kj];show ev m D vals (stp m D vals v w) (J1 k w)=_;rw[zIZ k];rfl
abbrev z0(D:Nat):List Int:=J1 D 0
theorem zEJ{p:Int}{D:Nat}(hp:0<p):Row p D (z0 D):=by
 refine⟨by simp,fun i hi=>?_⟩;have:at0 (z0 D) i=0:=by simp[z0,at0,J2,hi]
 rw[this];omega
theorem jN{p:Int}{D:Nat}{r:List Int}{B:Mx}(hp:0<p):Row p D (tO p D r B):=by refine⟨zZ _ _,fun i hi=>?_⟩;have e1:=Lm (S D (fun l=>at0 r l*ent B l i)) (show p≠0 by omega);have e2:=Kx (S D (fun l=>at0 r l*ent B l i)) hp;rw[tO,yB hi];omega
section
variable {n D:Nat}{m:zC} (hm:MOk n m D) (hn:n≤9) {vals:Mx} (hv:VOk n m.Prime D vals)
 include hm hn hv
theorem sL{v:List Int}{w:Nat}:Row m.Prime D (stp m D vals v w):=by have _:=hn;have _:=hv;exact tP hm.p
theorem zA3{v:List Int}(h:Row m.Prime D v):∀ws,Row m.Prime D (ev m D vals v ws):=by
 intro ws
 induction ws generalizing v with
 |nil=>exact h
 |cons w ws ih=>exact ih (sL hm hn hv)
theorem tV{v:List Int}{w:Nat}(h:Row m.Prime D v)(hw:w<n):zFt m vals v (w:Int)=some (stp m D vals v w):=by have _:=hn;have h7:=hm.p.pos;have h3:=hm.d3;unfold zFt;rw[yC [] (by rw[hm.len];exact hw),bs,hm.d,zDt hm.p (by omega) h (hm.mat w hw),bs,yC [] (by rw[hv.1];exact hw),bs,wZ hm.p (jN (by omega)) (hv.2 w hw) (by omega) (by omega),bs];rfl
theorem zAr{v x:List Int}(h:Row m.Prime D v)(hl:x.length=n)(hx:∀i,i<n→0≤at0 x i∧at0 x i≤6):f_F m vals v x=some (ev m D vals v (nw 0 x)):=by
 have:=zN (body:=zSI m vals x) (r:=ev m D vals v (nw 0 x)) (fun i=>(ev m D vals v (nw 0 (x.take i)),(i:Int))) n (fun i hi=>by
  have hxi:=hx i hi;unfold zSI;simp only
  rw[hl,yI hi,zH];rw[wT (S:=Row m.Prime D) (body:=zSH m vals x (ev m D vals v (nw 0 (x.take i)),(i:Int))) (fun v=>v) (fun v=>stp m D vals v i) (at0 x i) hxi.1 (fun v _=>sL hm hn hv) (fun u q hu hq=>by
   unfold zSH;simp only
   rw[yE (by omega),bs,decide_eq_true hq,zH,tV hm hn hv hu hi,bs,zD (by omega) (by omega),bs,cs]) (fun u hu=>by
   unfold zSH;simp only
   rw[yE (by omega),bs,decide_eq_false (by omega),zE]) (zA3 hm hn hv h _),bs,zD (by omega) (by omega),bs,cs]
  rw[zIX (by omega),zIb,zIZ]) (by
  unfold zSI;simp only
  rw[hl,yS,zE,Je (by omega)])
 rw[show((0:Nat):Int)=0 from rfl,Jx]at this;simp only[nw,ev,Gy]at this;unfold f_F;rw[this,bs];rfl
theorem zDT{ws:List Nat}(hw:∀w∈ws,w<n)(hl:ws.length≤1000):zSN m vals (enW ws)=some (ev m D vals (z0 D) ws):=by
 have h7:=hm.p.pos;have h3:=hm.d3;unfold zSN;rw[hm.d,yO (by omega),bs];have hz:=zEJ (p:=m.Prime) (D:=D) (by omega);have hel:(enW ws).length=ws.length:=by simp only[enW,Jl]
 have:=zN (body:=zLi m vals (enW ws)) (r:=ev m D vals (z0 D) ws) (fun i=>(ev m D vals (z0 D) (ws.take i),(i:Int))) ws.length (fun i hi=>by
  have hwi:=hw ws[i] (K9 hi);have hr:=zA3 hm hn hv hz (ws.take i);unfold zLi;simp only
  rw[hel,yI hi,zH,wU,Ju,J3 hi];simp only[Hs];rw[bs,zD (by omega) (by omega),bs,show((ws[i]:Nat):Int)+1-1=((ws[i]:Nat):Int)from by omega,zCR hm hn hwi,bs,zAT hm.p (by omega) hr (hm.mat _ hwi) rfl,bs,bs,yC [] (by rw[hv.1];exact hwi),bs,sT hm.p (jN (by omega)) (hv.2 _ hwi) (by omega) (by omega),bs,zD (by omega) (by omega),bs,cs,Jr hi,zIb];rfl) (by
  unfold zLi;simp only
  rw[hel,yS,zE,Je (by omega)])
 rw[show((0:Nat):Int)=0 from rfl,Jx]at this;simp only[ev,Gy]at this;rw[this,bs];rfl
end
theorem zQQ{v:List Int}(hl:v.length≤1000000):IsB (f_H v) (∀i,i<v.length→at0 v i=0):=by
 refine sC v.length (fun i=>at0 v i=0) rfl (fun i hi _=>?_) ?_
 ·unfold zKS
  rw[yI hi,zH,yE hi,bs]
  by_cases h:at0 v i=0
  ·rw[show(at0 v i != 0)=false from by simp only[h];rfl,zE,zD (by omega) (by omega),bs,cs];exact .inl ⟨rfl,h⟩
  ·rw[show(at0 v i != 0)=true from by simpa using h,zH];exact .inr ⟨rfl,h⟩
 ·unfold zKS
  rw[yS,zE]
theorem zAV{v:List Int}(hl:v.length≤1000000):IsB (zSM v) (∀i,i<v.length→at0 v i=0):=zQQ hl
section
variable {x:SPr} (h:Pres x) {m:zC}{D:Nat} (hm:MOk x.zA.length m D) {vals:Mx} (hv:VOk x.zA.length m.Prime D vals)
 include h hm hv
abbrev dfc(m:zC)(D:Nat)(vals:Mx)(q:Rl):List Int:=xK m.Prime D (ev m D vals (z0 D) q.1) (-1) (ev m D vals (z0 D) q.2)
theorem zF3:(xN x).length≤100:=by have _:=hv;have _:=hm;have h6:=h.os.1;have hfm:=zGK h x.zA.length (Ji _);simp only[xN,J6,Jl,L9];omega
theorem zJa:zUv x m vals=some ((xN x).map (dfc m D vals)):=by
 have h6:=h.os.1;have h7:=hm.p.pos;have h3:=hm.d3;have hrl:=zF3 h hm hv;have hz:=zEJ (p:=m.Prime) (D:=D) (by omega);unfold zUv;rw[kZ h,bs];have:=zN (body:=zLj m vals ((xN x).map enR)) (r:=(xN x).map (dfc m D vals)) (fun i=>(((xN x).map (dfc m D vals)).take i,(i:Int))) (xN x).length (fun i hi=>by
  have hmem:(xN x)[i]∈xN x:=K9 hi;obtain⟨⟨g1,g2⟩,g3,g4⟩:=zHY h hmem;unfold zLj;simp only
  rw[Jl,yI hi,zH,wU,Ju,J3 hi];simp only[Hs];rw[bs,zDT hm h6 hv g1 g2,bs,zDT hm h6 hv g3 g4,bs,sT hm.p (zA3 hm h6 hv hz _) (zA3 hm h6 hv hz _) (by omega) (by omega),bs,yF (by simp;omega),bs,zD (by omega) (by omega),bs,cs,Jr (by simpa using hi)];simp only[List.getElem_map]) (by
  unfold zLj;simp only
  rw[Jl,yS,zE,Je (by simp)])
 rw[show((0:Nat):Int)=0 from rfl,Jx]at this;rw[this,bs]
end
end Go.Pl

namespace Go.Pl
open Go Go.Ab Go.Wk Go.Pc
def BL(x:SPr)(i:Nat):List Rl:=(Jq i).flatMap fun i=>r1 x i::R2 x i
theorem zJb{x:SPr}{i:Nat}:BL x (i+1)=BL x i++(r1 x i::R2 x i):=by simp only[BL,Kv,L8,Ls,Ga,J9]
theorem zWe{x:SPr}{q:Rl}:q∈BL x x.zA.length↔q∈xN x:=by
 simp only[BL,xN,Uf,Lb,Jv,Lf,Jg];constructor
 ·rintro⟨i,hi,rfl|h⟩
  ·exact .inl ⟨i,hi,rfl⟩
  ·exact .inr ⟨i,hi,h⟩
 ·rintro(⟨i,hi,rfl⟩|⟨i,hi,h⟩)
  ·exact⟨i,hi,.inl rfl⟩
  ·exact⟨i,hi,.inr h⟩
section
variable {x:SPr} (h:Pres x) {m:zC}{D:Nat} (hm:MOk x.zA.length m D) {vals:Mx} (hv:VOk x.zA.length m.Prime D vals)
 include h hm hv
abbrev fl(m:zC)(D:Nat)(vals:Mx)(xs:List Rl):List Int:=(xs.map (dfc m D vals)).flatten
theorem zQR(xs:List Rl):(fl m D vals xs).length≤xs.length*3:=by
 have _:=h;have _:=hv;have h3:=hm.d3
 induction xs with
 |nil=>simp[fl]
 |cons q xs ih=>
  simp only[fl,Jk,H4,J6,Jh]at ih ⊢
  have:(dfc m D vals q).length=D:=zAU;omega
theorem zNM{xs:List Rl}{q:Rl}:fl m D vals xs++dfc m D vals q=fl m D vals (xs++[q]):=by have _:=h;have _:=hm;have _:=hv;simp only[fl,Lg,Jk,Lr,Ui,H4,U8,J9]
theorem zQS:∀i,i≤x.zA.length→(BL x i).length≤10*i
 |0,_=>by have _:=h;have _:=hm;have _:=hv;simp[BL]
 |i+1,hi=>by have:=zQS i (by omega);have:=zQP h (i:=i) (by omega);rw[zJb,J6,Jh];omega
theorem zOA:f_z x m vals=some (fl m D vals (BL x x.zA.length)):=by
 have h6:=h.os.1;have h7:=hm.p.pos;have h3:=hm.d3;have hpl:=h.pl;have hcl:=h.cl;have hz:=zEJ (p:=m.Prime) (D:=D) (by omega);unfold f_z;rw[hm.d,yO (by omega),bs];have l3:=zN (body:=zSL x m vals D) (r:=fl m D vals (BL x x.zA.length)) (fun i=>(fl m D vals (BL x i),(i:Int))) x.zA.length (fun i hi=>by
  obtain⟨p1,p2⟩:=uW h.os (h.tl i hi).1;have t2:=(h.tl i hi).2.1;have ho:=(h.os.2 i hi).pos;have hbl:=zQS h hm hv i (by omega);have hfl:=zQR h hm hv (BL x i);unfold zSL;simp only
  rw[yI hi,zH];rw[wT (S:=Row m.Prime D) (body:=zSJ x m vals (fl m D vals (BL x i),(i:Int))) (fun v=>v) (fun v=>stp m D vals v i) (at0 x.zA i) (by omega) (fun v _=>sL hm h6 hv) (fun u q hu hq=>by
   unfold zSJ;simp only
   rw[yE hi,bs,decide_eq_true hq,zH,tV hm h6 hv hu hi,bs,zD (by omega) (by omega),bs,cs]) (fun u hu=>by
   unfold zSJ;simp only
   rw[yE hi,bs,decide_eq_false (by omega),zE]) hz,bs,zD (by omega) (by omega),bs,yC [] (by omega),bs,zAr hm h6 hv hz p1 p2,bs,←zIZ]
  have e1:f_n m.Prime (ev m D vals (z0 D) (J1 (at0 x.zA i).toNat i)) (m.Prime-1) (ev m D vals (z0 D) (nw 0 (x.zT.getD i [])))=some (dfc m D vals (r1 x i)):=by rw[wZ hm.p (zA3 hm h6 hv hz _) (zA3 hm h6 hv hz _) (by omega) (by omega),zAa];rfl
  have hd1:(dfc m D vals (r1 x i)).length=D:=zAU;rw[e1,bs,yF (by omega),bs,zNM h hm hv,zD (by omega) (by omega),bs];have l2:=zN (body:=zSK x m vals D (fl m D vals (BL x i),(i:Int))) (r:=fl m D vals (BL x (i+1))) (fun j=>(fl m D vals (BL x i++(r1 x i::(Jq j).map (r2 x i))),((i+1+j:Nat):Int))) (x.zB.getD i []).length (fun j hj=>by
   obtain⟨c1,c2⟩:=uW h.os ((h.tl i hi).2.2 j hj);have hfl2:=zQR h hm hv (BL x i++(r1 x i::(Jq j).map (r2 x i)));simp only[J6,Jh,Jl,L9]at hfl2;have hjn:i+1+j<x.zA.length:=by omega
   have s1:=tV hm h6 hv hz hjn;have s2:=tV hm h6 hv (sL hm h6 hv (v:=z0 D) (w:=i+1+j)) hi;have s3:=tV hm h6 hv hz hi;have s4:=zAr hm h6 hv (sL hm h6 hv (v:=z0 D) (w:=i)) c1 c2;unfold zSK;simp only
   rw[yI hjn,zH,s1,bs,s2,bs,s3,bs,yC [] (by omega),bs,zD (by omega) (by omega),bs,zD (by omega) (by omega),bs,show(((i+1+j:Nat):Int)-(i:Int)-1)=(j:Int)from by omega,yC [] hj,bs,s4,bs,zD (by omega) (by omega),bs];have e2:f_n m.Prime (stp m D vals (stp m D vals (z0 D) (i+1+j)) i) (m.Prime-1) (ev m D vals (stp m D vals (z0 D) i) (nw 0 ((x.zB.getD i []).getD j [])))=some (dfc m D vals (r2 x i j)):=by rw[wZ hm.p (sL hm h6 hv) (zA3 hm h6 hv (sL hm h6 hv) _) (by omega) (by omega),zAa];simp only[dfc,r2,ev,List.foldl_cons,Gy];rw[show i+j+1=i+1+j from by omega]
   have hd2:(dfc m D vals (r2 x i j)).length=D:=zAU;rw[e2,bs,yF (by omega),bs,zNM h hm hv,zD (by omega) (by omega),bs,cs,Kv];simp only[Lg,Jk,Lr,Jc,Kh];rfl) (by
   unfold zSK;simp only
   rw[show i+1+(x.zB.getD i []).length=x.zA.length from by omega,yS,zE,zJb];rfl)
  simp only[Gj,Lr]at l2;rw[show((i:Int)+1)=((i+1+0:Nat):Int)from by omega,l2,bs,show((i+1+0:Nat):Int)=((i+1:Nat):Int)from rfl,bs]) (by
  unfold zSL;simp only
  rw[yS,zE])
 rw[show((0:Nat):Int)=0 from rfl,show BL x 0=[]from rfl]at l3;simp only[fl,Lr,U8]at l3;rw[l3,bs]
end
theorem zOB{m:zC}{D:Nat}{vals:Mx}(hp:Prime m.Prime)(hd:m.Dim=(D:Int))(hD:D≤8)(hl:vals.length≤1048576):IsB (zWD m vals) (∀i,i<vals.length→Row m.Prime D (vals.getD i [])):=by
 refine sC vals.length (fun i=>Row m.Prime D (vals.getD i [])) rfl (fun i hi _=>?_) ?_
 ·refine vV (zFg hp hD (r:=vals.getD i [])) (by omega) ?_
  unfold zOh;rw[yI hi,zH,yC [] hi,bs,hd]
 ·unfold zOh
  rw[yS,zE]
theorem zK4{a b:Int}(h:a=b):(a==b)=true:=by simp[h]
theorem zK5{a b:Int}(h:a≠b):(a==b)=false:=by simp[h]
end Go.Pl

namespace Go.Pl
open Go Go.Ab Go.Wk Go.Pc
theorem IsB.both{o o':Option Bool}{P:Prop}(h:IsB o P)(h':IsB o' P):(o=some true∧o'=some true∧P)∨(o=some false∧o'=some false∧ ¬P):=by
 rcases h with⟨h1,h2⟩|⟨h1,h2⟩<;>rcases h' with⟨h3,h4⟩|⟨h3,h4⟩
 ·exact .inl ⟨h1,h3,h2⟩
 ·exact absurd h2 h4
 ·exact absurd h4 h2
 ·exact .inr ⟨h1,h3,h2⟩
end Go.Pl

namespace Go.Pl
open Go Go.Ab Go.Wk Go.Pc
def Sp(p:Int)(n:Nat)(R:Mx)(v:List Int):Prop:=∃c:Nat→Int,∀j,j<n→(S R.length fun i=>c i*ent R i j)%p=at0 v j%p
section
variable {p:Int}{n:Nat}{R R':Mx}{u v w:List Int}
theorem tQ{i:Nat}(hi:i<R.length):Sp p n R (R.getD i []):=by refine⟨fun l=>if l=i then 1 else 0,fun j _=>?_⟩;rw[zAS (k:=i) hi (fun l _ hl=>by simp[hl])];simp
theorem qD{k:Int}(hv:Sp p n R v)(hw:Sp p n R w)(h:∀j,j<n→at0 u j%p=(at0 v j+k*at0 w j)%p):Sp p n R u:=by
 obtain⟨c,hc⟩:=hv;obtain⟨d,hd⟩:=hw;refine⟨fun i=>c i+k*d i,fun j hj=>?_⟩;have e:(S R.length fun i=>(c i+k*d i)*ent R i j)=(S R.length fun i=>c i*ent R i j)+k*(S R.length fun i=>d i*ent R i j):=by rw[←zDs,←zKr];exact wC fun i _=>by rw[Qo,H8]
 rw[e,h j hj,Km,hc j hj,Jz,hd j hj,←Jz,←Km]
theorem zAs(h:∀j,j<n→at0 u j%p=0):Sp p n R u:=by refine⟨fun _=>0,fun j hj=>?_⟩;rw[h j hj,wC (g:=fun _=>0) (fun i _=>by simp),qS];simp
theorem jO(h:∀i,i<R.length→Sp p n R' (R.getD i []))(hv:Sp p n R v):Sp p n R' v:=by
 obtain⟨c,hc⟩:=hv;have key:∀m,m≤R.length→ ∃d:Nat→Int,∀j,j<n→(S R'.length fun i=>d i*ent R' i j)%p=(S m fun i=>c i*ent R i j)%p:=by
  intro m
  induction m with
  |zero=>intro _;exact⟨fun _=>0,fun j _=>by rw[wC (g:=fun _=>0) (fun i _=>by simp),qS];rfl⟩
  |succ m ih=>
   intro hm;obtain⟨d,hd⟩:=ih (by omega);obtain⟨e,he⟩:=h m (by omega);refine⟨fun i=>d i+c m*e i,fun j hj=>?_⟩;have e1:(S R'.length fun i=>(d i+c m*e i)*ent R' i j)=(S R'.length fun i=>d i*ent R' i j)+c m*(S R'.length fun i=>e i*ent R' i j):=by rw[←zDs,←zKr];exact wC fun i _=>by rw[Qo,H8]
   rw[e1,Km,hd j hj,Jz,he j hj,←Jz,←Km];rfl
 obtain⟨d,hd⟩:=key R.length (Ji _);exact⟨d,fun j hj=>by rw[hd j hj,hc j hj]⟩
end
def sV(p:Int)(n:Nat)(R R':Mx):Prop:=(∀i,i<R.length→Sp p n R' (R.getD i []))∧ ∀i,i<R'.length→Sp p n R (R'.getD i [])
theorem sV.refl{p:Int}{n:Nat}{R:Mx}:sV p n R R:=⟨fun _ h=>tQ h,fun _ h=>tQ h⟩
theorem sV.symm{p:Int}{n:Nat}{R R':Mx}(h:sV p n R R'):sV p n R' R:=⟨h.2,h.1⟩
theorem sV.trans{p:Int}{n:Nat}{R R' R2:Mx}(h:sV p n R R')(h':sV p n R' R2):sV p n R R2:=⟨fun i hi=>jO h'.1 (h.1 i hi),fun i hi=>jO h.2 (h'.2 i hi)⟩
theorem sV.iff{p:Int}{n:Nat}{R R':Mx}{v:List Int}(h:sV p n R R'):Sp p n R v↔Sp p n R' v:=⟨fun g=>jO h.1 g,fun g=>jO h.2 g⟩
structure Red (p:Int) (n:Nat) (R:Mx) (pv:Nat→Nat):Prop where
 row:∀i,i<R.length→Row p n (R.getD i [])
 lt:∀i,i<R.length→pv i<n
 one:∀i,i<R.length→ent R i (pv i)=1
 low:∀i,i<R.length→ ∀j,j<pv i→ent R i j=0
 off:∀i k,i<R.length→k<R.length→k≠i→ent R k (pv i)=0
 mono:∀i j,i<j→j<R.length→pv i<pv j
section
variable {p:Int} (hp:1<p) {n:Nat}{R R':Mx}{pv pv':Nat→Nat}{v:List Int}
theorem Red.coef(h:Red p n R pv){c:Nat→Int}(hc:∀j,j<n→(S R.length fun i=>c i*ent R i j)%p=at0 v j%p){k:Nat}(hk:k<R.length):c k%p=at0 v (pv k)%p:=by rw[←hc (pv k) (h.lt k hk),zAS (k:=k) hk (fun i hi hne=>by rw[h.off k i hk hi hne];simp),h.one k hk];simp
theorem Red.expand(h:Red p n R pv)(hv:Sp p n R v):∀j,j<n→at0 v j%p=(S R.length fun i=>at0 v (pv i)*ent R i j)%p:=by obtain⟨c,hc⟩:=hv;intro j hj;rw[←hc j hj];exact zCd fun i hi=>by rw[Jz,h.coef hc hi,←Jz]
theorem Red.lead(h:Red p n R pv)(hv:Sp p n R v)(hne:∃j,j<n∧at0 v j%p≠0):∃i,i<R.length∧(∀j,j<pv i→at0 v j%p=0)∧at0 v (pv i)%p≠0:=by
 have hx:=h.expand hv;have h1:∃i,i<R.length∧at0 v (pv i)%p≠0:=by
  refine Classical.byContradiction fun hn=>?_
  obtain⟨j,hj,hj2⟩:=hne;refine hj2 ?_;rw[hx j hj,zCd (g:=fun _=>0) (fun i hi=>by
   have:at0 v (pv i)%p=0:=Classical.byContradiction fun h0=>hn ⟨i,hi,h0⟩
   rw[Jz,this];simp),qS];rfl
 obtain⟨i,⟨hi,hi2⟩,hmin⟩:=zAD h1;refine⟨i,hi,fun j hj=>?_,hi2⟩;have hjn:j<n:=Nat.lt_trans hj (h.lt i hi);rw[hx j hjn,zCd (g:=fun _=>0) (fun k hk=>by
  rcases Jf k i with hki|hki
  ·have:at0 v (pv k)%p=0:=Classical.byContradiction fun h0=>hmin k hki ⟨hk,h0⟩
   rw[Jz,this];simp
  ·have h2:pv i≤pv k:=by
    rcases Jf i k with h3|h3
    ·exact Jc8 (h.mono i k h3 hk)
    ·rw[show i=k from by omega];exact Ji _
   rw[h.low k hk j (by omega)];simp),qS];rfl
 include hp
theorem Red.row_lead(h:Red p n R pv){i:Nat}(hi:i<R.length):(∃j,j<n∧at0 (R.getD i []) j%p≠0)∧(∀j,j<pv i→at0 (R.getD i []) j%p=0)∧at0 (R.getD i []) (pv i)%p≠0:=by
 have h1:at0 (R.getD i []) (pv i)%p≠0:=by have:=h.one i hi;simp only[ent]at this;rw[this,K6 (by omega) hp];omega
 refine⟨⟨pv i,h.lt i hi,h1⟩,fun j hj=>?_,h1⟩;have:=h.low i hi j hj;simp only[ent]at this;rw[this];rfl
theorem Red.piv_in(h:Red p n R pv)(h':Red p n R' pv')(hs:∀i,i<R.length→Sp p n R' (R.getD i [])){i:Nat}(hi:i<R.length):∃k,k<R'.length∧pv' k=pv i:=by
 obtain⟨g1,g2,g3⟩:=h.row_lead hp hi;obtain⟨k,hk,g4,g5⟩:=h'.lead (hs i hi) g1;refine⟨k,hk,?_⟩;rcases U6 (pv' k) (pv i)with h1|h1|h1
 ·exact absurd (g2 _ h1) g5
 ·exact h1
 ·exact absurd (g4 _ h1) g3
theorem Red.piv_eq(h:Red p n R pv)(h':Red p n R' pv')(hs:sV p n R R'):∀i,(i<R.length↔i<R'.length)∧(i<R.length→pv i=pv' i):=by
 intro i
 induction i using Nat.strongRecOn with
 |_ i ih=>
  have a:i<R.length→i<R'.length∧pv' i≤pv i:=fun hi=>by
   obtain⟨k,hk,e⟩:=h.piv_in hp h' hs.1 hi;have hki:i≤k:=by
    refine Classical.byContradiction fun hn=>?_
    have h1:=(ih k (by omega)).2 (by omega);have h2:=h.mono k i (by omega) hi;omega
   refine⟨by omega,?_⟩;rcases Jf i k with h3|h3
   ·have:=h'.mono i k h3 hk;omega
   ·have hik:i=k:=by omega
    subst hik;omega
  have b:i<R'.length→i<R.length∧pv i≤pv' i:=fun hi=>by
   obtain⟨k,hk,e⟩:=h'.piv_in hp h hs.2 hi;have hki:i≤k:=by
    refine Classical.byContradiction fun hn=>?_
    have h1:=(ih k (by omega)).2 hk;have h2:=h'.mono k i (by omega) hi;omega
   refine⟨by omega,?_⟩;rcases Jf i k with h3|h3
   ·have:=h.mono i k h3 hk;omega
   ·have hik:i=k:=by omega
    subst hik;omega
  exact⟨⟨fun hi=>(a hi).1,fun hi=>(b hi).1⟩,fun hi=>by have:=(a hi).2;have:=(b (a hi).1).2;omega⟩
theorem Red.unique(h:Red p n R pv)(h':Red p n R' pv')(hs:sV p n R R'):R=R':=by
 have hpe:=h.piv_eq hp h' hs;have hl:R.length=R'.length:=by
  rcases U6 R.length R'.length with g|g|g
  ·have:=(hpe R.length).1.2 g;omega
  ·exact g
  ·have:=(hpe R'.length).1.1 g;omega
 refine zGE (D:=R.length) rfl hl.symm fun i hi=>?_
 have hi':i<R'.length:=by omega
 have r1:=h.row i hi;have r2:=h'.row i hi';rw[wY r1.1,wY r2.1];refine zW fun j hj=>?_
 have hx:=h'.expand (hs.1 i hi) j hj;rw[wC (g:=fun k=>(if k=i then 1 else 0)*ent R' k j) (fun k hk=>by
  congr 1
  have e:=(hpe k).2 (by omega)
  by_cases hki:k=i
  ·subst hki;rw[if_pos rfl,←e];exact h.one k hi
  ·rw[if_neg hki,←e];exact h.off k i (by omega) hi (Ne.symm hki)),zAS (k:=i) hi' (fun k _ hk=>by simp[hk])]at hx
 simp only[if_true,Q9,ent]at hx;have a1:=r1.2 j hj;have a2:=r2.2 j hj;rw[K6 a1.1 (by omega),K6 a2.1 (by omega)]at hx;exact hx
end
end Go.Pl

namespace Go.Pl
open Go Go.Ab Go.Wk Go.Pc
def mkR(m:Nat)(F:Nat→List Int):Mx:=(Jq m).map F
theorem tG{m:Nat}{F:Nat→List Int}:(mkR m F).length=m:=by simp[mkR]
theorem qZ{m:Nat}{F:Nat→List Int}{i:Nat}(h:i<m):(mkR m F).getD i []=F i:=by simp[mkR,J2,h]
theorem zJc{m:Nat}{F:Nat→List Int}{i:Nat}(h:i<m):ixO (mkR m F) (i:Int)=some (F i):=by rw[yC [] (by rw[tG];exact h),qZ h]
theorem tW{m:Nat}{F G:Nat→List Int}(h:∀i,i<m→F i=G i):mkR m F=mkR m G:=by simp only[mkR];exact Q7 fun i hi=>h i (Lb.1 hi)
theorem zWf{R:Mx}{m:Nat}(h:R.length=m):R=mkR m (fun i=>R.getD i []):=zGE (D:=m) h tG fun i hi=>by rw[qZ hi]
theorem zF4{m:Nat}{F:Nat→List Int}{i:Nat}{a:List Int}:(mkR m F).set i a=mkR m (fun k=>if k=i then a else F k):=by
 apply La;intro k
 by_cases hk:k<m
 ·by_cases h:i=k
  ·subst h;simp[mkR,hk]
  ·rw[Qx h];simp[mkR,hk,Ne.symm h]
 ·rw[Jn (by simp[mkR];omega),Jn (by simp[mkR];omega)]
theorem zDU{m:Nat}{F:Nat→List Int}{i j:Nat}(h:i<m):ent (mkR m F) i j=at0 (F i) j:=by simp only[ent,qZ h]
theorem zQT{s:Nat→Int×Int×Int×Int}(n:Nat){r:Int×Int}(h:∀i,i<n→zOZ (s i)=some (.inl (s (i+1))))(he:zOZ (s n)=some (.inr r)){p q:Int}(hq:zHu r.2 p=some q)(h1:r.1=1)(hs:s 0=(p,(s 0).2.1,0,1)):
  f_U (s 0).2.1 p=some (q,true):=by
 unfold f_U;rw[←hs,zN s n h he,bs,hq,bs,h1];rfl
def zQU:List (Int×Int×Int×Int)→Nat→Int×Int×Int×Int:=fun l i=>l.getD i (0,0,0,0)
theorem uB(l:List (Int×Int×Int×Int))(n:Nat){r:Int×Int}(h:∀i,i<n→zOZ (zQU l i)=some (.inl (zQU l (i+1))))(he:zOZ (zQU l n)=some (.inr r)){p q x:Int}(hq:zHu r.2 p=some q)(h1:r.1=1)(hs:zQU l 0=(p,x,0,1)):
  f_U x p=some (q,true):=by
 have:=zQT (s:=zQU l) n h he hq h1 (by rw[hs]);rw[hs]at this;exact this
theorem lt1{P:Nat→Prop}(h0:P 0):∀i,i<1→P i:=fun i hi=>by rw[show i=0 from by omega];exact h0
theorem lt2{P:Nat→Prop}(h0:P 0)(h1:P 1):∀i,i<2→P i:=fun i hi=>by match i,hi with|0,_=>exact h0|1,_=>exact h1
theorem lt3{P:Nat→Prop}(h0:P 0)(h1:P 1)(h2:P 2):∀i,i<3→P i:=fun i hi=>by match i,hi with|0,_=>exact h0|1,_=>exact h1|2,_=>exact h2
theorem zDV{p x:Int}(hp:Prime p)(h0:1≤x)(h1:x≤p-1):∃r,f_U x p=some (r,true)∧0≤r∧r≤p-1∧(x*r)%p=1:=by
 have c:(p=2∧x=1)∨(p=3∧(x=1∨x=2))∨(p=5∧(x=1∨x=2∨x=3∨x=4))∨(p=7∧(x=1∨x=2∨x=3∨x=4∨x=5∨x=6)):=by unfold Prime at hp;omega
 rcases c with⟨rfl,rfl⟩|⟨rfl,rfl|rfl⟩|⟨rfl,rfl|rfl|rfl|rfl⟩|⟨rfl,rfl|rfl|rfl|rfl|rfl|rfl⟩
 ·exact⟨1,uB [(2,1,0,1),(1,0,1,-2)] 1 (lt1 (by decide+kernel)) (r:=(1,1)) (by decide+kernel) (by decide+kernel) rfl rfl,by decide,by decide,by decide⟩
 ·exact⟨1,uB [(3,1,0,1),(1,0,1,-3)] 1 (lt1 (by decide+kernel)) (r:=(1,1)) (by decide+kernel) (by decide+kernel) rfl rfl,by decide,by decide,by decide⟩
 ·exact⟨2,uB [(3,2,0,1),(2,1,1,-1),(1,0,-1,3)] 2 (lt2 (by decide+kernel) (by decide+kernel)) (r:=(1,-1)) (by decide+kernel) (by decide+kernel) rfl rfl,by decide,by decide,by decide⟩
 ·exact⟨1,uB [(5,1,0,1),(1,0,1,-5)] 1 (lt1 (by decide+kernel)) (r:=(1,1)) (by decide+kernel) (by decide+kernel) rfl rfl,by decide,by decide,by decide⟩
 ·exact⟨3,uB [(5,2,0,1),(2,1,1,-2),(1,0,-2,5)] 2 (lt2 (by decide+kernel) (by decide+kernel)) (r:=(1,-2)) (by decide+kernel) (by decide+kernel) rfl rfl,by decide,by decide,by decide⟩
 ·exact⟨2,uB [(5,3,0,1),(3,2,1,-1),(2,1,-1,2),(1,0,2,-5)] 3 (lt3 (by decide+kernel) (by decide+kernel) (by decide+kernel)) (r:=(1,2)) (by decide+kernel) (by decide+kernel) rfl rfl,by decide,by decide,by decide⟩
 ·exact⟨4,uB [(5,4,0,1),(4,1,1,-1),(1,0,-1,5)] 2 (lt2 (by decide+kernel) (by decide+kernel)) (r:=(1,-1)) (by decide+kernel) (by decide+kernel) rfl rfl,by decide,by decide,by decide⟩
 ·exact⟨1,uB [(7,1,0,1),(1,0,1,-7)] 1 (lt1 (by decide+kernel)) (r:=(1,1)) (by decide+kernel) (by decide+kernel) rfl rfl,by decide,by decide,by decide⟩
 ·exact⟨4,uB [(7,2,0,1),(2,1,1,-3),(1,0,-3,7)] 2 (lt2 (by decide+kernel) (by decide+kernel)) (r:=(1,-3)) (by decide+kernel) (by decide+kernel) rfl rfl,by decide,by decide,by decide⟩
 ·exact⟨5,uB [(7,3,0,1),(3,1,1,-2),(1,0,-2,7)] 2 (lt2 (by decide+kernel) (by decide+kernel)) (r:=(1,-2)) (by decide+kernel) (by decide+kernel) rfl rfl,by decide,by decide,by decide⟩
 ·exact⟨2,uB [(7,4,0,1),(4,3,1,-1),(3,1,-1,2),(1,0,2,-7)] 3 (lt3 (by decide+kernel) (by decide+kernel) (by decide+kernel)) (r:=(1,2)) (by decide+kernel) (by decide+kernel) rfl rfl,by decide,by decide,by decide⟩
 ·exact⟨3,uB [(7,5,0,1),(5,2,1,-1),(2,1,-1,3),(1,0,3,-7)] 3 (lt3 (by decide+kernel) (by decide+kernel) (by decide+kernel)) (r:=(1,3)) (by decide+kernel) (by decide+kernel) rfl rfl,by decide,by decide,by decide⟩
 ·exact⟨6,uB [(7,6,0,1),(6,1,1,-1),(1,0,-1,7)] 2 (lt2 (by decide+kernel) (by decide+kernel)) (r:=(1,-1)) (by decide+kernel) (by decide+kernel) rfl rfl,by decide,by decide,by decide⟩
end Go.Pl

namespace Go.Pl
open Go Go.Ab Go.Wk Go.Pc
structure zOC (p:Int) (n m:Nat) (rows:Mx) (c:Nat) (M:Mx) (d:Nat) (pv:Nat→Nat):Prop where
 len:M.length=m
 row:∀i,i<m→Row p n (M.getD i [])
 dm:d≤m
 lt:∀i,i<d→pv i<c
 one:∀i,i<d→ent M i (pv i)=1
 low:∀i,i<d→ ∀j,j<pv i→ent M i j=0
 off:∀i k,i<d→k<m→k≠i→ent M k (pv i)=0
 mono:∀i j,i<j→j<d→pv i<pv j
 zero:∀k,d≤k→k<m→ ∀j,j<c→ent M k j=0
 sp:sV p n M rows
theorem zBu{p:Int}{n m:Nat}{F:Nat→List Int}{i:Nat}(h:i<m):Sp p n (mkR m F) (F i):=by have:=tQ (p:=p) (n:=n) (R:=mkR m F) (i:=i) (by rw[tG];exact h);rw[qZ h]at this;exact this
theorem zQV(a e r p:Int):a%p=((a+(0-e)*r)%p+e*r)%p:=by rw[Km,Kb,←Km,show a+(0-e)*r+e*r=a from by rw[Qn,G8];omega]
section
variable {p:Int} (hp:Prime p) {n m:Nat}{rows:Mx}{c:Nat}{M:Mx}{d:Nat}{pv:Nat→Nat} (h:zOC p n m rows c M d pv) (hc:c<n) (hd:d<m)
 include hp h hc hd
theorem zOC.pivot{t:Nat}(ht:d≤t)(htm:t<m)(hne:ent M t c≠0){q:Int}(hq:(ent M t c*q)%p=1):
  zOC p n m rows (c+1) (mkR m fun i=>if i=d then mkv n fun j=>(ent M t j*q)%p else xK p n (if i=t then M.getD d []else M.getD i []) (0-at0 (if i=t then M.getD d []else M.getD i []) c) (mkv n fun j=>(ent M t j*q)%p)) (d+1) (fun i=>if i=d then c else pv i):=by
 have h7:=hp.pos;have pr:∀j,j<n→at0 (mkv n fun j=>(ent M t j*q)%p) j=(ent M t j*q)%p:=fun j hj=>yB hj
 have p0:∀j,j<c→(ent M t j*q)%p=0:=fun j hj=>by rw[h.zero t ht htm j hj];simp
 have prow:Row p n (mkv n fun j=>(ent M t j*q)%p):=⟨zZ _ _,fun j hj=>by have e1:=Lm (ent M t j*q) (show p≠0 by omega);have e2:=Kx (ent M t j*q) (show 0<p by omega);rw[pr j hj];omega⟩
 have hG:∀i,i<m→i≠d→Row p n (if i=t then M.getD d []else M.getD i []):=fun i hi _=>by
  split
  ·exact h.row d hd
  ·exact h.row i hi
 have eo:∀i j,i<m→i≠d→j<n→ent (mkR m fun i=>if i=d then mkv n fun j=>(ent M t j*q)%p else xK p n (if i=t then M.getD d []else M.getD i []) (0-at0 (if i=t then M.getD d []else M.getD i []) c) (mkv n fun j=>(ent M t j*q)%p)) i j=(at0 (if i=t then M.getD d []else M.getD i []) j+(0-at0 (if i=t then M.getD d []else M.getD i []) c)*((ent M t j*q)%p))%p:=fun i j hi hne' hj=>by rw[zDU hi,if_neg hne',xK,yB hj,pr j hj]
 have el:∀i j,i<m→i≠d→j<c→ent (mkR m fun i=>if i=d then mkv n fun j=>(ent M t j*q)%p else xK p n (if i=t then M.getD d []else M.getD i []) (0-at0 (if i=t then M.getD d []else M.getD i []) c) (mkv n fun j=>(ent M t j*q)%p)) i j=at0 (if i=t then M.getD d []else M.getD i []) j:=fun i j hi hne' hj=>by rw[eo i j hi hne' (by omega),p0 j hj,G4,U7];have:=(hG i hi hne').2 j (by omega);exact K6 this.1 (by omega)
 have ed:∀j,j<n→ent (mkR m fun i=>if i=d then mkv n fun j=>(ent M t j*q)%p else xK p n (if i=t then M.getD d []else M.getD i []) (0-at0 (if i=t then M.getD d []else M.getD i []) c) (mkv n fun j=>(ent M t j*q)%p)) d j=(ent M t j*q)%p:=fun j hj=>by rw[zDU hd,if_pos rfl,pr j hj]
 have ec:∀i,i<m→i≠d→ent (mkR m fun i=>if i=d then mkv n fun j=>(ent M t j*q)%p else xK p n (if i=t then M.getD d []else M.getD i []) (0-at0 (if i=t then M.getD d []else M.getD i []) c) (mkv n fun j=>(ent M t j*q)%p)) i c=0:=fun i hi hne'=>by rw[eo i c hi hne' hc,hq,Hc];rw[show at0 (if i=t then M.getD d []else M.getD i []) c+(0-at0 (if i=t then M.getD d []else M.getD i []) c)=0 from by omega];simp
 have hlow:∀i,i<d→(if i=t then M.getD d []else M.getD i [])=M.getD i []:=fun i hi=>by rw[if_neg (by omega)]
 have hzr:∀i,d≤i→i<m→ ∀j,j<c→at0 (if i=t then M.getD d []else M.getD i []) j=0:=fun i hi hi2 j hj=>by
  split
  ·exact h.zero d (Ji _) hd j hj
  ·exact h.zero i hi hi2 j hj
 refine⟨tG,fun i hi=>?_,by omega,fun i hi=>?_,fun i hi=>?_,fun i hi j hj=>?_,fun i k hi hk hne'=>?_,fun i j hij hj=>?_,fun k hk hk2 j hj=>?_,?_⟩
 ·rw[qZ hi]
  split
  ·exact prow
  ·exact tP hp
 ·by_cases hid:i=d
  ·rw[if_pos hid];omega
  ·rw[if_neg hid];have:=h.lt i (by omega);omega
 ·by_cases hid:i=d
  ·subst hid;rw[if_pos rfl,ed c hc,hq]
  ·have h1:=h.lt i (by omega)
   rw[if_neg hid,el i _ (by omega) hid h1,hlow i (by omega)];exact h.one i (by omega)
 ·by_cases hid:i=d
  ·subst hid
   rw[if_pos rfl]at hj;rw[ed j (by omega),p0 j hj]
  ·rw[if_neg hid]at hj
   have h1:=h.lt i (by omega);rw[el i j (by omega) hid (by omega),hlow i (by omega)];exact h.low i (by omega) j hj
 ·by_cases hid:i=d
  ·subst hid
   rw[if_pos rfl];exact ec k hk hne'
  ·have h1:=h.lt i (by omega)
   rw[if_neg hid]
   by_cases hkd:k=d
   ·subst hkd
    rw[ed _ (by omega),h.off i t (by omega) htm (by omega)];simp
   ·rw[el k _ hk hkd h1]
    split
    ·exact h.off i d (by omega) hd (Ne.symm hid)
    ·exact h.off i k (by omega) hk hne'
 ·by_cases hjd:j=d
  ·subst hjd
   rw[if_pos rfl,if_neg (by omega)];exact h.lt i (by omega)
  ·rw[if_neg hjd,if_neg (by omega)];exact h.mono i j hij (by omega)
 ·rcases Jf j c with hjc|hjc
  ·rw[el k j hk2 (by omega) hjc];exact hzr k (by omega) hk2 j hjc
  ·rw[show j=c from by omega];exact ec k hk2 (by omega)
 ·refine sV.trans ⟨fun i hi=>?_,fun i hi=>?_⟩ h.sp
  ·rw[tG]at hi
   rw[qZ hi];have hr:Sp p n M (mkv n fun j=>(ent M t j*q)%p):=by
    refine qD (k:=q) (zAs (u:=[]) fun j _=>by simp[at0]) (tQ (R:=M) (i:=t) (by rw[h.len];exact htm)) fun j hj=>?_
    rw[pr j hj,Kb,Hq];simp[at0]
   split
   ·exact hr
   ·refine qD (k:=0-at0 (if i=t then M.getD d []else M.getD i []) c) (v:=if i=t then M.getD d []else M.getD i []) ?_ hr fun j hj=>?_
    ·split
     ·exact tQ (by rw[h.len];exact hd)
     ·exact tQ (by rw[h.len];exact hi)
    ·rw[xK,yB hj,Kb]
  ·rw[h.len]at hi
   have hr:=zBu (p:=p) (n:=n) (m:=m) (F:=fun i=>if i=d then mkv n fun j=>(ent M t j*q)%p else xK p n (if i=t then M.getD d []else M.getD i []) (0-at0 (if i=t then M.getD d []else M.getD i []) c) (mkv n fun j=>(ent M t j*q)%p)) hd;simp only[if_true]at hr;have hg:∀k,k<m→k≠d→Sp p n (mkR m fun i=>if i=d then mkv n fun j=>(ent M t j*q)%p else xK p n (if i=t then M.getD d []else M.getD i []) (0-at0 (if i=t then M.getD d []else M.getD i []) c) (mkv n fun j=>(ent M t j*q)%p)) (if k=t then M.getD d []else M.getD k []):=fun k hk hkd=>by
    have h1:=zBu (p:=p) (n:=n) (m:=m) (F:=fun i=>if i=d then mkv n fun j=>(ent M t j*q)%p else xK p n (if i=t then M.getD d []else M.getD i []) (0-at0 (if i=t then M.getD d []else M.getD i []) c) (mkv n fun j=>(ent M t j*q)%p)) hk;simp only[if_neg hkd]at h1;refine qD (k:=at0 (if k=t then M.getD d []else M.getD k []) c) h1 hr fun j hj=>?_
    rw[xK,yB hj,pr j hj];exact zQV _ _ _ _
   by_cases hit:i=t
   ·
    subst hit;refine qD (k:=ent M i c) (zAs (u:=[]) fun j _=>by simp[at0]) hr fun j hj=>?_
    rw[pr j hj];have e1:(ent M i c*((ent M i j*q)%p))%p=(ent M i j*((ent M i c*q)%p))%p:=by
     rw[Jz,Kb,←Jz,Jz (ent M i j),Kb,←Jz]
     congr 1
     rw[←H8,←H8,Hq (ent M i c)]
    rw[show at0 ([]:List Int) j=0 from by simp[at0],Ku,e1,hq,Hc]
   ·by_cases hid:i=d
    ·subst hid
     have:=hg t htm (by omega);rw[if_pos rfl]at this;exact this
    ·have:=hg i hi hid
     rw[if_neg hit]at this;exact this
end
end Go.Pl

namespace Go.Pl
open Go Go.Ab Go.Wk Go.Pc
theorem sO{v:List Int}(h:v.length≤1000000):f_x v=some v:=by unfold f_x;rw[yF (by simp;omega),bs,Jp]
theorem zHt{rows:Mx}(hm:rows.length≤1000000)(hn:∀i,i<rows.length→(rows.getD i []).length≤1000000):zUs rows=some rows:=by
 unfold zUs;have:=zN (body:=zLc rows) (r:=rows) (fun i=>(rows.take i,(i:Int))) rows.length (fun i hi=>by
  unfold zLc;simp only
  rw[yI hi,zH,yC [] hi,bs,sO (hn i hi),bs,yF (by simp;omega),bs,zD (by omega) (by omega),bs,cs,Jr hi,J2,J3 hi];rfl) (by
  unfold zLc;simp only
  rw[yS,zE,Kl])
 rw[show((0:Nat):Int)=0 from rfl,Jx]at this;rw[this,bs]
theorem zOD{M:Mx}{d c m n:Nat}(hm:M.length=m)(hd:d≤m)(hmm:m≤1000000)(hrow:∀i,i<m→(M.getD i []).length=n)(hc:c<n):
  ∃t:Nat,d≤t∧t≤m∧zF (zHv (M,(d:Int),(c:Int))) (d:Int)=some (t:Int)∧(∀k,d≤k→k<t→ent M k c=0)∧(t<m→ent M t c≠0):=by
 have key:∀k,k≤m-d→ ∃t:Nat,m-k≤t∧t≤m∧zF (zHv (M,(d:Int),(c:Int))) ((m-k:Nat):Int)=some (t:Int)∧(∀q,m-k≤q→q<t→ent M q c=0)∧(t<m→ent M t c≠0):=by
  intro k
  induction k with
  |zero=>
   intro _;refine⟨m,by omega,Ji _,?_,fun q h1 h2=>by omega,fun h=>by omega⟩;rw[yL];unfold zHv;simp only
   rw[hm,show m-0=m from rfl,yS,zE]
  |succ k ih=>
   intro hk;obtain⟨t,h1,h2,h3,h4,h5⟩:=ih (by omega);have hlt:m-(k+1)<m:=by omega
   by_cases hz:ent M (m-(k+1)) c=0
   ·refine⟨t,by omega,h2,?_,fun q q1 q2=>?_,h5⟩
    ·rw[yL]
     have e:zHv (M,(d:Int),(c:Int)) ((m-(k+1):Nat):Int)=some (.inl ((m-k:Nat):Int)):=by
      unfold zHv;simp only
      rw[hm,yI hlt,zH,yC [] (by omega),bs,yE (by rw[hrow _ hlt];exact hc),bs,zK4 hz,zH,zD (by omega) (by omega),bs,cs,show m-(k+1)+1=m-k from by omega]
     rw[e];exact h3
    ·rcases Jf (m-(k+1)) q with g|g
     ·exact h4 q (by omega) q2
     ·rw[show q=m-(k+1)from by omega];exact hz
   ·refine⟨m-(k+1),Ji _,by omega,?_,fun q q1 q2=>by omega,fun _=>hz⟩
    rw[yL];have e:zHv (M,(d:Int),(c:Int)) ((m-(k+1):Nat):Int)=some (.inr ((m-(k+1):Nat):Int)):=by
     unfold zHv;simp only
     rw[hm,yI hlt,zH,yC [] (by omega),bs,yE (by rw[hrow _ hlt];exact hc),bs,zK5 hz,zE]
    rw[e]
 obtain⟨t,h1,h2,h3,h4,h5⟩:=key (m-d) (Ji _);rw[show m-(m-d)=d from by omega]at h1 h3 h4;exact⟨t,h1,h2,h3,h4,h5⟩
section
variable {p:Int} (hp:Prime p) {n m:Nat}{M:Mx}{d c t:Nat}
 include hp
theorem zLV{F:Nat→List Int}{q:Int}{b:Bool}(hd:d<m)(hr:Row p n (F d))(hn:n≤1000000)(hq:0≤q∧q≤p-1){v:List Int}(hv:v.length=n){s:Mx×Int×Int}(hs:s.2.1=(d:Int)):
  zF (zLd p s (q,b) v) (mkR m F,0)=some (mkR m fun i=>if i=d then mkv n fun j=>(at0 (F d) j*q)%p else F i):=by
 have h7:=hp.pos;have:=zN (body:=zLd p s (q,b) v) (r:=mkR m fun i=>if i=d then mkv n fun j=>(at0 (F d) j*q)%p else F i) (fun k=>(mkR m fun i=>if i=d then mkv n (fun j=>if j<k then(at0 (F d) j*q)%p else at0 (F d) j)else F i,(k:Int))) n (fun k hk=>by
  have a1:=hr.2 k hk;have a2:=zBt hp (k:=q) ⟨by omega,by omega⟩ a1;have a3:=U0 a1.1 hq.1;rw[Hq]at a2;unfold zLd;simp only
  rw[hv,yI hk,zH,hs,zJc hd];simp only[bs,if_true];rw[yE (by rw[zZ];exact hk),yB hk,if_neg (by omega)];simp only[bs];rw[zD (by omega) (by omega)];simp only[bs,vF];rw[if_neg (by omega)];simp only[bs];rw[Lj a3,zD (by omega) (by omega)];simp only[bs,J7,cs];rw[zF4]
  congr 3
  refine tW fun i _=>?_
  by_cases hi:i=d
  ·rw[if_pos hi,if_pos hi,qX]
   refine zW fun j _=>?_
   by_cases hj:j=k
   ·subst hj;rw[if_pos rfl,if_pos (by omega)]
   ·rw[if_neg hj]
    by_cases hj2:j<k
    ·rw[if_pos hj2,if_pos (by omega)]
    ·rw[if_neg hj2,if_neg (by omega)]
  ·rw[if_neg hi,if_neg hi,if_neg hi]) (by
  unfold zLd;simp only
  rw[hv,yS,zE]
  congr 2
  refine tW fun i _=>?_
  split
  ·exact zW fun j hj=>by rw[if_pos hj]
  ·rfl)
 rw[show((0:Nat):Int)=0 from rfl]at this;rw[←this]
 congr 2
 refine tW fun i _=>?_
 split
 ·rename_i e;subst e
  conv=>lhs;rw[wY hr.1]
  exact zW fun j _=>by rw[if_neg (by omega)]
 ·rfl
theorem zLW{F:Nat→List Int}(hd:d<m)(hc:c<n)(hr:∀i,i<m→Row p n (F i))(hn:n≤1000000)(hm:m≤1000000){r21:Mx}(hl:r21.length=m){s:Mx×Int×Int}(hs:s.2.1=(d:Int))(hs2:s.2.2=(c:Int)):
  zF (zMA p s r21) (mkR m F,0)=some (mkR m fun i=>if i=d then F d else xK p n (F i) (0-at0 (F i) c) (F d)):=by
 have h7:=hp.pos;have:=zN (body:=zMA p s r21) (r:=mkR m fun i=>if i=d then F d else xK p n (F i) (0-at0 (F i) c) (F d)) (fun k=>(mkR m fun i=>if i<k∧i≠d then xK p n (F i) (0-at0 (F i) c) (F d)else F i,(k:Int))) m (fun k hk=>by
  have a1:=(hr k hk).2 c hc;unfold zMA;simp only
  rw[hl,yI hk,zH,hs,hs2]
  by_cases hkd:k=d
  ·subst hkd
   rw[jK rfl,zE,zD (by omega) (by omega),bs,cs]
   congr 3
   refine tW fun i _=>?_
   by_cases hi:i=k
   ·subst hi;rw[if_neg (by omega),if_neg (by omega)]
   ·by_cases hi2:i<k
    ·rw[if_pos ⟨hi2,hi⟩,if_pos ⟨by omega,hi⟩]
    ·rw[if_neg (by omega),if_neg (by omega)]
  ·rw[qC (by omega),zH,zJc hk,zJc hd]
   simp only[bs,ne_eq,not_true_eq_false,and_false,if_false,Nat.lt_irrefl,false_and];rw[yE (by rw[(hr k hk).1];exact hc)];simp only[bs];rw[zD (by omega) (by omega)];simp only[bs];rw[sT hp (hr k hk) (hr d hd) (by omega) hn,bs,zD (by omega) (by omega)];simp only[bs,J7,cs];rw[zF4]
   congr 3
   refine tW fun i _=>?_
   by_cases hi:i=k
   ·subst hi;rw[if_pos rfl,if_pos ⟨by omega,hkd⟩]
   ·rw[if_neg hi]
    by_cases hi2:i<k∧ ¬i=d
    ·rw[if_pos hi2,if_pos ⟨by omega,hi2.2⟩]
    ·rw[if_neg hi2,if_neg (by omega)]) (by
  unfold zMA;simp only
  rw[hl,yS,zE]
  congr 2
  refine tW fun i hi=>?_
  by_cases hid:i=d
  ·rw[if_pos hid,if_neg (by omega),hid]
  ·rw[if_neg hid,if_pos ⟨hi,hid⟩])
 rw[show((0:Nat):Int)=0 from rfl]at this;rw[←this]
 congr 2
end
end Go.Pl
