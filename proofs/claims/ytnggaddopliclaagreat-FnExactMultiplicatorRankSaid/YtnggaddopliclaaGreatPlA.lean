/- The program's MultiplicatorRank returns what the reference's returns,for all arguments;no conditions. -/
import Derived.Test.YtnggaddopliclaaGreatAbB
import Derived.Test.YtnggaddopliclaaGreatWF
open List renaming replicate→J1,getD_eq_getElem?_getD→J2,getElem?_eq_getElem→J3,length_append→J5,length_cons→J6,getElem?_append_right→J8,append_nil→J9,append_assoc→Ja,getElem?_eq_some_iff→Jb,length_map→Jc,mem_cons→Jd,length_replicate→Jh,nil_append→Ji,mem_append→Jj,range→Jl,getElem?_append_left→Jm,replicate_succ→Jo,cons_append→Jq,take_of_length_le→Jr,eq_of_mem_replicate→Js,mem_map→Jt,map_cons→Ju,replicate_append_replicate→Jv,length_nil→Jw,getElem?_eq_none→Jz,getElem?_map→K0,length_drop→K1,take_zero→K6,take_succ_eq_append_getElem→K8,take_succ_cons→K9,length_take→Ka,eq_nil_of_length_eq_zero→Kb,getElem_mem→Kj,getElem?_drop→Ko,mem_range→Kq,getElem?_replicate→Kr,map_append→Ks,length_range→Kt,set_cons_zero→Kz,getElem?_append→L4,range'→L9,ext_getElem?→La,flatMap_cons→Ln,range_succ→Lq,range_eq_range'→Lr,getD_cons_zero→Lu,map_nil→Lw,flatMap_append→Lx,getElem?_take→H3,replicate_succ'→H4,drop_replicate→H6,replicate_zero→He,take_length→Hg,singleton_append→Hh,flatten_nil→Hw,mem_iff_getElem→G3,drop_zero→G4,drop_eq_getElem_cons→G8,set_append_right→Ge,mem_flatMap→Gf,mem_of_mem_take→Gz,getD_cons_succ→Ub,foldl_append→Ud,getElem?_cons_succ→Uu,range_zero→Q5,suffix_cons→Qj,map_congr_left→Qm,flatten_append→Qo,getElem?_cons_zero→Ja2,getElem?_set_ne→Jad,foldl_nil→Jae,flatMap_nil→Jaf,suffix_cons_iff→Jat,range_succ_eq_map→Jb1,not_mem_nil→Jb2,drop_of_length_le→Jb5,take_append_drop→Jbf,map_map→Jbp,length→Jbq,drop_append→Jbs,all_cons→Jbt,suffix_nil→Jbw,findSome?_cons→Jby,cons→Jc1,getElem?_set→Jc4,range'_succ→Jd6,getElem_map→Jd7
open Bool renaming and_eq_true→J4,not_false→Kw,not_true→Ky,false_and→Jcq
open Int renaming toNat_natCast→Je,mul_emod→Jx,emod_emod→Kc,emod_eq_of_lt→Ke,add_emod→Kl,emod_lt_of_pos→Kv,tmod_eq_emod_of_nonneg→Kx,mul_zero→Ld,emod_nonneg→Le,zero_add→Lo,mul_le_mul→Lt,add_mul_emod_self_left→Lz,add_zero→Ha,mul_assoc→Hf,mul_one→Ho,toNat_zero→Hs,mul_nonneg→Gx,zero_mul→U9,mul_comm→Ua,add_emod_right→Un,add_mul→Qf,sub_mul→Ja4,one_mul→Ja5,mul_le_mul_of_nonneg_left→Ja6,mul_add→Ja7,tmod_add_mul_tdiv→Jaw,tmod_lt_of_pos→Jbh,lt_tmod_of_pos→Jbi,tmod→Jc5,sub_zero→Jco,toNat_of_nonneg→Jd8
open Nat renaming zero_add→Jf,lt_or_ge→Jk,le_refl→Jp,zero_le→Kk,sub_self→Ku,le_trans→L6,add_assoc→Ls,div_add_mod→H8,lt_trichotomy→G6,sub_zero→U7,add_zero→U8,add_mul→Uk,min_eq_left→Qi,mul_one→Qp,mul_add→Jay,lt_irrefl→Jc2,zero_sub→Jcm,add_comm→Jcn
open Option renaming some→Lb,map_eq_some_iff→Lf,map_some→Hj
namespace Go.Pc
abbrev Vec:=List Int
structure Lvl where
 o:Int
 w:Vec
 cs:List Vec
abbrev Pcp:=List Lvl
def zeros(n:Nat):Vec:=J1 n 0
def iter{α:Type}:Nat→(α→α)→α→α
 |0,_,x=>x
 |n+1,f,x=>iter n f (f x)
theorem wW{α:Type}(f:α→α):∀(n:Nat)(x:α),iter (n+1) f x=f (iter n f x)
 |0,_=>rfl
 |n+1,x=>by rw[iter,wW f n (f x)];rfl
theorem zEw{α:Type}(f:α→α)(a:Nat):∀(b:Nat)(x:α),iter (a+b) f x=iter a f (iter b f x)
 |0,_=>rfl
 |b+1,x=>by show iter (a+b) f (f x)=_;rw[zEw f a b (f x)];rfl
def img{α:Type}(m:α→α→α):List α→Vec→α→α
 |c::cs,x::xs,acc=>img m cs xs (iter x.toNat (fun v=>m v c) acc)
 |_,_,acc=>acc
def V:Pcp→Vec→Prop
 | [],v=>v=[]
 |l::P,v=>match v with
  | []=>False
  |a::x=>(0≤a∧a<l.o)∧V P x
def mul:Pcp→Vec→Vec→Vec
 |l::P,a::x,b::y=>
  let r:=mul P (iter b.toNat (fun v=>img (mul P) l.cs v (zeros P.length)) x) y
  if a+b≥l.o then(a+b-l.o)::mul P l.w r else(a+b)::r
 |_,_,_=>[]
def Ok:Pcp→Prop
 | []=>True
 |l::P=>1<l.o∧V P l.w∧l.cs.length=P.length∧(∀c∈l.cs,V P c)∧Ok P
structure Mon {α:Type} (S:α→Prop) (m:α→α→α) (e:α):Prop where
 cl:∀{a b},S a→S b→S (m a b)
 ein:S e
 assoc:∀{a b c},S a→S b→S c→m (m a b) c=m a (m b c)
 onel:∀{a},S a→m e a=a
 oner:∀{a},S a→m a e=a
structure Grp {α:Type} (S:α→Prop) (m:α→α→α) (e:α):Prop extends Mon S m e where
 inv:∀{a},S a→ ∃b,S b∧m a b=e
theorem Grp.invl{α:Type}{S:α→Prop}{m:α→α→α}{e:α}(h:Grp S m e){a:α}(ha:S a):∃b,S b∧m a b=e∧m b a=e:=by
 obtain⟨b,hb,h1⟩:=h.inv ha;obtain⟨c,hc,h2⟩:=h.inv hb;refine⟨b,hb,h1,?_⟩;have:a=c:=by rw[←h.oner ha,←h2,←h.assoc ha hb hc,h1,h.onel hc]
 rw[this];exact h2
theorem Grp.cancel_l{α:Type}{S:α→Prop}{m:α→α→α}{e:α}(h:Grp S m e){a b c:α}(ha:S a)(hb:S b)(hc:S c)(hh:m a b=m a c):b=c:=by obtain⟨d,hd,_,h2⟩:=h.invl ha;rw[←h.onel hb,←h.onel hc,←h2,h.assoc hd ha hb,h.assoc hd ha hc,hh]
section
variable {α:Type}{S:α→Prop}{m:α→α→α}{e:α}
def pw(m:α→α→α)(e:α)(x:α)(k:Nat):α:=iter k (fun v=>m v x) e
theorem tL(h:Mon S m e){x:α}(hx:S x):∀k,S (pw m e x k)
 |0=>h.ein
 |k+1=>by rw[pw,wW];exact h.cl (tL h hx k) hx
theorem vK{f:α→α}(hf:∀a,S a→S (f a)):∀(k:Nat){x:α},S x→S (iter k f x)
 |0,_,hx=>hx
 |k+1,_,hx=>vK hf k (hf _ hx)
theorem zEx(h:Mon S m e){x a:α}(hx:S x)(ha:S a):∀k,iter k (fun v=>m v x) a=m a (pw m e x k)
 |0=>(h.oner ha).symm
 |k+1=>by rw[wW,zEx h hx ha k];show _=m a (iter (k+1) (fun v=>m v x) e);rw[wW];exact h.assoc ha (tL h hx k) hx
theorem zHk(h:Mon S m e){x:α}(hx:S x)(a b:Nat):pw m e x (a+b)=m (pw m e x a) (pw m e x b):=by rw[Jcn,pw,zEw,←zEx h hx (tL h hx a) b];rfl
theorem zRq(h:Mon S m e){x:α}(hx:S x):pw m e x 1=x:=h.onel hx
theorem zRr(h:Mon S m e){x:α}(hx:S x)(k:Nat):pw m e x (k+1)=m x (pw m e x k):=by rw[Jcn,zHk h hx 1 k,zRq h hx]
theorem jA(h:∀{a b},S a→S b→S (m a b)):∀(cs:List α)(x:Vec){a:α},(∀c∈cs,S c)→S a→S (img m cs x a)
 |c::cs,x::xs,_,hc,ha=>by simp only[img];exact jA h cs xs (fun c h=>hc c (by simp[h])) (vK (fun a ha=>h ha (hc c (by simp))) _ ha)
 | [],_,_,_,ha=>by simpa[img]using ha
 |_::_,[],_,_,ha=>by simpa[img]using ha
theorem zFp(h:Mon S m e)(cs:List α)(x:Vec){a:α}(hc:∀c∈cs,S c)(ha:S a):S (img m cs x a):=jA h.cl cs x hc ha
theorem zEy(h:Mon S m e):∀(cs:List α)(x:Vec){a:α},(∀c∈cs,S c)→S a→img m cs x a=m a (img m cs x e)
 |c::cs,x::xs,a,hc,ha=>by
  have h1:S c:=hc c (by simp);have h2:∀c∈cs,S c:=fun c h=>hc c (by simp[h])
  simp only[img];rw[zEx h h1 ha,zEy h cs xs h2 (h.cl ha (tL h h1 _)),zEx h h1 h.ein,zEy h cs xs h2 (h.cl h.ein (tL h h1 _)),h.onel (tL h h1 _),
   h.assoc ha (tL h h1 _) (zFp h cs xs h2 h.ein)]
 | [],_,a,_,ha=>by simp[img,h.oner ha]
 |_::_,[],a,_,ha=>by simp[img,h.oner ha]
theorem qI(h:Mon S m e){c:α}{cs:List α}{x:Int}{xs:Vec}(hc:S c)(hcs:∀c∈cs,S c):img m (c::cs) (x::xs) e=m (pw m e c x.toNat) (img m cs xs e):=by simp only[img];rw[zEy h cs xs hcs (vK (fun a ha=>h.cl ha hc) _ h.ein)];rfl
theorem sT(m:α→α→α):∀(cs:List α)(n:Nat)(a:α),img m cs (zeros n) a=a
 | [],_,_=>by simp[img]
 |_::_,0,_=>by simp[zeros,img]
 |c::cs,n+1,a=>by simp only[zeros,Jo,img,Hs,iter];exact sT m cs n a
theorem zHl(h:Mon S m e){g:α}(hg:S g):∀(cs ds:List α)(x:Vec),(∀c∈cs,S c)→(∀c∈ds,S c)→cs.length=ds.length→(∀(k:Nat) c d,cs[k]? =some c→ds[k]? =some d→m c g=m g d)→m (img m cs x e) g=m g (img m ds x e)
 | [],[],x,_,_,_,_=>by simp[img,h.onel hg,h.oner hg]
 |c::cs,d::ds,[],_,_,_,_=>by simp[img,h.onel hg,h.oner hg]
 |c::cs,d::ds,x::xs,hc,hd,hl,hp=>by
  have hc0:S c:=hc c (by simp);have hd0:S d:=hd d (by simp);have hcs:∀c∈cs,S c:=fun c h=>hc c (by simp[h])
  have hds:∀c∈ds,S c:=fun c h=>hd c (by simp[h])
  have key:∀k,m (pw m e c k) g=m g (pw m e d k):=by
   intro k
   induction k with
   |zero=>simp[pw,iter,h.onel hg,h.oner hg]
   |succ k ih=>
    have h0:m c g=m g d:=hp 0 c d rfl rfl;rw[pw,wW,pw,wW];show m (m (pw m e c k) c) g=m g (m (pw m e d k) d);rw[h.assoc (tL h hc0 k) hc0 hg,h0,←h.assoc (tL h hc0 k) hg hd0,ih,h.assoc hg (tL h hd0 k) hd0]
  rw[qI h hc0 hcs,qI h hd0 hds,h.assoc (tL h hc0 _) (zFp h _ _ hcs h.ein) hg,zHl h hg cs ds xs hcs hds (by simpa using hl) (fun k c d h1 h2=>hp (k+1) c d (by simpa using h1) (by simpa using h2)),
   ←h.assoc (tL h hc0 _) hg (zFp h _ _ hds h.ein),key,h.assoc hg (tL h hd0 _) (zFp h _ _ hds h.ein)]
theorem zOo{β:Type}{T:β→Prop}{n:β→β→β}{f:β}(h:Mon S m e)(h':Mon T n f)(φ:α→β)(hin:∀a,S a→T (φ a))(h1:φ e=f)(hm:∀a b,S a→S b→φ (m a b)=n (φ a) (φ b)):∀(cs:List α)(x:Vec),(∀c∈cs,S c)→φ (img m cs x e)=img n (cs.map φ) x f
 | [],_,_=>by simp[img,h1]
 |c::cs,[],_=>by simp[img,h1]
 |c::cs,x::xs,hc=>by
  have hc0:S c:=hc c (by simp);have hcs:∀c∈cs,S c:=fun c h=>hc c (by simp[h])
  have key:∀k,φ (pw m e c k)=pw n f (φ c) k:=by
   intro k
   induction k with
   |zero=>simp[pw,iter,h1]
   |succ k ih=>
    rw[pw,wW,pw,wW];show φ (m (pw m e c k) c)=n (pw n f (φ c) k) (φ c);rw[hm _ _ (tL h hc0 k) hc0,ih]
  rw[qI h hc0 hcs,Ju,qI h' (hin c hc0) (by simp only[Jt];rintro _ ⟨c,hc',rfl⟩;exact hin c (hcs c hc')),hm _ _ (tL h hc0 _) (zFp h _ _ hcs h.ein),key,zOo h h' φ hin h1 hm cs xs hcs]
end
theorem wP:∀{P:Pcp},Ok P→V P (zeros P.length)
 | [],_=>rfl
 |l::P,h=>by simp only[Ok]at h;simp only[J6,zeros,Jo,V];exact⟨by omega,wP h.2.2.2.2⟩
theorem xE:∀{P:Pcp},Ok P→ ∀{x y:Vec},V P x→V P y→V P (mul P x y)
 | [],_,_,_,hx,hy=>by simp[mul,V]
 |l::P,h,[],_,hx,_=>by simp[V]at hx
 |l::P,h,_::_,[],_,hy=>by simp[V]at hy
 |l::P,h,a::x,b::y,hx,hy=>by
  simp only[Ok]at h;simp only[V]at hx hy;have h1:∀v,V P v→V P (img (mul P) l.cs v (zeros P.length)):=fun v hv=>jA (xE h.2.2.2.2) l.cs v h.2.2.2.1 (wP h.2.2.2.2)
  have h2:=xE h.2.2.2.2 (vK h1 b.toNat hx.2) hy.2;simp only[mul];split
  ·exact⟨by omega,xE h.2.2.2.2 h.2.1 h2⟩
  ·exact⟨by omega,h2⟩
def Rel{α:Type}(m:α→α→α)(e:α):Pcp→List α→Prop
 | [],s=>s=[]
 |l::P,s=>match s with
  | []=>False
  |g::s=>pw m e g l.o.toNat=img m s l.w e∧(∀(k:Nat) c d,s[k]? =some c→l.cs[k]? =some d→m c g=m g (img m s d e))∧Rel m e P s
section
variable {α:Type}{S:α→Prop}{m:α→α→α}{e:α}
theorem zYR(h:Mon S m e):∀(P:Pcp)(s:List α),Ok P→(∀g∈s,S g)→Rel m e P s→ ∀x y,V P x→V P y→img m s (mul P x y) e=m (img m s x e) (img m s y e)
 | [],s,_,_,hr,x,y,hx,hy=>by simp only[Rel]at hr;subst hr;simp[img,h.onel h.ein]
 |l::P,[],_,_,hr,_,_,_,_=>by simp[Rel]at hr
 |l::P,g::s,_,_,_,[],_,hx,_=>by simp[V]at hx
 |l::P,g::s,_,_,_,_::_,[],_,hy=>by simp[V]at hy
 |l::P,g::s,hk,hs,hr,a::x,b::y,hx,hy=>by
  simp only[Ok]at hk;simp only[Rel]at hr;simp only[V]at hx hy;obtain⟨ho,hw,hcl,hcs,hkP⟩:=hk;obtain⟨hr1,hr2,hr3⟩:=hr;have hg:S g:=hs g (by simp);have hss:∀c∈s,S c:=fun c hc=>hs c (by simp[hc])
  have hlen:s.length=P.length:=by
   clear hr1 hr2 hx hy hw hcl hcs hs hss
   induction P generalizing s with
   |nil=>simp only[Rel]at hr3;simp[hr3]
   |cons l P ih=>
    cases s with
    |nil=>simp[Rel]at hr3
    |cons c s=>simp only[Rel]at hr3;simp only[Ok]at hkP;simp[ih s hkP.2.2.2.2 hr3.2.2]
  have ih:=zYR h P s hkP hss hr3;have hφ:∀v,S (img m s v e):=fun v=>zFp h s v hss h.ein
  have hmP:∀{a b},V P a→V P b→V P (mul P a b):=xE hkP;have hσin:∀v,V P v→V P (img (mul P) l.cs v (zeros P.length)):=fun v hv=>jA hmP l.cs v hcs (wP hkP)
  have hσ:∀v,V P v→m (img m s v e) g=m g (img m s (img (mul P) l.cs v (zeros P.length)) e):=by
   intro v hv;have key:∀(cs:List Vec)(v:Vec)(acc:Vec),(∀c∈cs,V P c)→V P acc→img m s (img (mul P) cs v acc) e=img m (cs.map fun c=>img m s c e) v (img m s acc e):=by
    intro cs
    induction cs with
    |nil=>intro v acc _ _;simp[img]
    |cons c cs ihc=>
     intro v acc hc hacc;cases v with
     |nil=>simp[img]
     |cons z v=>
      have hc0:V P c:=hc c (by simp);have it:∀k acc,V P acc→img m s (iter k (fun v=>mul P v c) acc) e=iter k (fun v=>m v (img m s c e)) (img m s acc e):=by
       intro k
       induction k with
       |zero=>intro acc _;rfl
       |succ k ihk=>
        intro acc hacc;simp only[iter];rw[ihk _ (hmP hacc hc0),ih _ _ hacc hc0]
      simp only[img,Ju];rw[ihc v _ (fun c h=>hc c (by simp[h])) (vK (fun a ha=>hmP ha hc0) _ hacc),it _ _ hacc]
   rw[key l.cs v (zeros P.length) hcs (wP hkP),sT];refine zHl h hg s _ v hss (by simp only[Jt];rintro _ ⟨c,_,rfl⟩;exact hφ c) (by simp[hlen,hcl]) ?_;intro k c d hc hd;simp only[K0,Lf]at hd;obtain⟨d',hd',rfl⟩:=hd;exact hr2 k c d' hc hd'
  have hσk:∀k v,V P v→m (img m s v e) (pw m e g k)=m (pw m e g k) (img m s (iter k (fun v=>img (mul P) l.cs v (zeros P.length)) v) e):=by
   intro k
   induction k with
   |zero=>intro v _;simp[pw,iter,h.onel (hφ v),h.oner (hφ v)]
   |succ k ihk=>
    intro v hv;rw[zRr h hg,←h.assoc (hφ v) hg (tL h hg k),hσ v hv,h.assoc hg (hφ _) (tL h hg k),ihk _ (hσin v hv),←h.assoc hg (tL h hg k) (hφ _)];rfl
  have hpa:=tL h hg a.toNat;have hpb:=tL h hg b.toNat;have hit:V P (iter b.toNat (fun v=>img (mul P) l.cs v (zeros P.length)) x):=vK hσin _ hx.2;have hmain:m (img m (g::s) (a::x) e) (img m (g::s) (b::y) e)=m (pw m e g (a.toNat+b.toNat)) (img m s (mul P (iter b.toNat (fun v=>img (mul P) l.cs v (zeros P.length)) x) y) e):=by rw[qI h hg hss,qI h hg hss,h.assoc hpa (hφ x) (h.cl hpb (hφ y)),←h.assoc (hφ x) hpb (hφ y),hσk _ _ hx.2,h.assoc hpb (hφ _) (hφ y),←ih _ _ hit hy.2,←h.assoc hpa hpb (hφ _),zHk h hg]
  rw[hmain];simp only[mul];split
  ·rename_i hge
   rw[qI h hg hss,ih _ _ hw (hmP hit hy.2),←hr1,←h.assoc (tL h hg _) (tL h hg _) (hφ _),←zHk h hg]
   congr 2
   omega
  ·rw[qI h hg hss]
   congr 2
   omega
end
def xJ(n j:Nat):Vec:=(zeros n).set j 1
def sig(P:Pcp)(l:Lvl)(v:Vec):Vec:=img (mul P) l.cs v (zeros P.length)
def wQ:Pcp→Prop
 | []=>True
 |l::P=>wQ P∧Rel (mul P) (zeros P.length) P l.cs∧sig P l l.w=l.w∧ ∀j,j<P.length→mul P l.w (iter l.o.toNat (sig P l) (xJ P.length j))=mul P (xJ P.length j) l.w
theorem zCT(n:Nat):xJ (n+1) 0=1::zeros n:=rfl
theorem zFq(n j:Nat):xJ (n+1) (j+1)=0::xJ n j:=rfl
def wL(n:Nat):List Vec:=(Jl n).map (xJ n)
theorem zMC(n:Nat):wL (n+1)=(1::zeros n)::(wL n).map (0::·):=by
 simp only[wL,Jb1,Ju,Jbp,zCT]
 congr 1
theorem zCt:∀{P:Pcp},Ok P→ ∀{j:Nat},j<P.length→V P (xJ P.length j)
 | [],_,_,hj=>by simp at hj
 |l::P,h,0,_=>by simp only[Ok]at h;rw[J6,zCT];simp only[V];exact⟨by omega,wP h.2.2.2.2⟩
 |l::P,h,j+1,hj=>by simp only[Ok]at h;rw[J6,zFq];simp only[V];exact⟨by omega,zCt h.2.2.2.2 (by simpa using hj)⟩
theorem zCu{l:Lvl}{P:Pcp}(h:Ok (l::P)){v:Vec}(_hv:V P v):V P (sig P l v):=by simp only[Ok]at h;exact jA (xE h.2.2.2.2) l.cs v h.2.2.2.1 (wP h.2.2.2.2)
theorem yW(l:Lvl)(P:Pcp)(a b:Int)(x y:Vec):mul (l::P) (a::x) (b::y)=if a+b≥l.o then(a+b-l.o)::mul P l.w (mul P (iter b.toNat (sig P l) x) y)else(a+b)::mul P (iter b.toNat (sig P l) x) y:=rfl
theorem zPq{n k:Nat}{c:Vec}(h:(wL n)[k]? =some c):k<n∧c=xJ n k:=by simp only[wL,K0,Lf]at h;obtain⟨j,hj,rfl⟩:=h;obtain⟨hk,rfl⟩:=Jb.1 hj;simp at hk;exact⟨hk,by simp⟩
theorem normal:∀(P:Pcp),Ok P→(∀Q,Q<:+P→Mon (V Q) (mul Q) (zeros Q.length))→ ∀x,V P x→img (mul P) (wL P.length) x (zeros P.length)=x
 | [],_,_,x,hx=>by simp only[V]at hx;subst hx;simp[wL,img,zeros]
 |l::P,_,_,[],hx=>by simp[V]at hx
 |l::P,h,hM,a::x,hx=>by
  have hMl:=hM (l::P) (List.suffix_refl _);have hMP:=hM P (Qj _ _);have h':=h;simp only[Ok]at h;simp only[V]at hx;rw[J6,zMC];have hz:V P (zeros P.length):=wP h.2.2.2.2;have hu0:V (l::P) (1::zeros P.length):=by simp only[V];exact⟨by omega,hz⟩
  have hus:∀c∈(wL P.length).map (0::·),V (l::P) c:=by intro c hc;simp only[wL,Jbp,Jt,Kq]at hc;obtain⟨j,hj,rfl⟩:=hc;simp only[Function.comp,V];exact⟨by omega,zCt h.2.2.2.2 hj⟩
  have hzl:V (l::P) (zeros (P.length+1)):=wP (P:=l::P) h';rw[show zeros (P.length+1)=zeros (l::P).length from rfl];rw[qI hMl hu0 hus];have sz:∀k:Nat,iter k (sig P l) (zeros P.length)=zeros P.length:=by
   intro k
   induction k with
   |zero=>rfl
   |succ k ih=>simp only[iter];rw[show sig P l (zeros P.length)=zeros P.length from sT _ _ _ _];exact ih
  have h1:∀k:Nat,(k:Int)<l.o→pw (mul (l::P)) (zeros (l::P).length) (1::zeros P.length) k=(k:Int)::zeros P.length:=by
   intro k
   induction k with
   |zero=>intro _;rfl
   |succ k ih=>
    intro hk;rw[pw,wW];show mul (l::P) (pw (mul (l::P)) (zeros (l::P).length) (1::zeros P.length) k) (1::zeros P.length)=_;rw[ih (by omega),yW,if_neg (by omega)];rw[sz,hMP.onel hz];rfl
  have h2:∀(cs:List Vec)(y acc:Vec),(∀c∈cs,V P c)→V P acc→img (mul (l::P)) (cs.map (0::·)) y (0::acc)=0::img (mul P) cs y acc:=by
   intro cs
   induction cs with
   |nil=>intro y acc _ _;simp[img]
   |cons c cs ih=>
    intro y acc hc hacc;cases y with
    |nil=>simp[img]
    |cons z y=>
     have hc0:V P c:=hc c (by simp);have it:∀(k:Nat)(acc:Vec),V P acc→iter k (fun v=>mul (l::P) v (0::c)) (0::acc)=0::iter k (fun v=>mul P v c) acc:=by
      intro k
      induction k with
      |zero=>intro _ _;rfl
      |succ k ihk=>
       intro acc hacc;simp only[iter];rw[yW,if_neg (by omega)];exact ihk _ (xE h.2.2.2.2 hacc hc0)
     simp only[Ju,img];rw[it _ _ hacc,ih _ _ (fun c h=>hc c (by simp[h])) (vK (fun a ha=>xE h.2.2.2.2 ha hc0) _ hacc)]
  have hun:∀c∈wL P.length,V P c:=by intro c hc;simp only[wL,Jt,Kq]at hc;obtain⟨j,hj,rfl⟩:=hc;exact zCt h.2.2.2.2 hj
  rw[h1 a.toNat (by omega),show zeros (l::P).length=0::zeros P.length from rfl,h2 _ _ _ hun hz,normal P h.2.2.2.2 (fun Q hQ=>hM Q (hQ.trans (Qj _ _))) x hx.2,yW,if_neg (by omega)];simp only[Hs,iter];rw[hMP.onel hx.2]
  congr 1
  omega
theorem zCv:∀(P:Pcp),Ok P→wQ P→Grp (V P) (mul P) (zeros P.length)
 | [],_,_=>by
  refine⟨⟨fun _ _=>rfl,rfl,fun _ _ _=>rfl,?_,?_⟩,fun ha=>⟨[],rfl,rfl⟩⟩<;>
  ·intro a ha
   simp only[V]at ha;subst ha;rfl
 |l::P,h,hc=>by
  have h':=h;simp only[Ok]at h;simp only[wQ]at hc;obtain⟨ho,hw,hcl,hcs,hP⟩:=h;obtain⟨hcP,hrel,hfix,hinn⟩:=hc;have N:=zCv P hP hcP;have hM:∀Q,Q<:+P→Mon (V Q) (mul Q) (zeros Q.length):=by
   intro Q hQ;obtain⟨t,ht⟩:=hQ;have:Ok Q∧wQ Q:=by
    clear N hw hcl hcs hrel hfix hinn h'
    induction t generalizing P with
    |nil=>simp at ht;subst ht;exact⟨hP,hcP⟩
    |cons a t ih=>
     simp at ht;subst ht;simp only[Ok]at hP;simp only[wQ]at hcP;exact ih (t++Q) hP.2.2.2.2 hcP.1 rfl
   have hlt:SizeOf.sizeOf Q≤SizeOf.sizeOf P:=by
    rw[←ht]
    clear N hw hcl hcs hrel hfix hinn h' hP hcP ht this
    induction t with
    |nil=>simp
    |cons a t ih=>simp only[Jq,Jc1.sizeOf_spec];omega
   exact(zCv Q this.1 this.2).toMon
  have hz:V P (zeros P.length):=wP hP;have σin:∀v,V P v→V P (sig P l v):=fun _ hv=>zCu h' hv
  have σhom:∀x y,V P x→V P y→sig P l (mul P x y)=mul P (sig P l x) (sig P l y):=fun x y hx hy=>zYR N.toMon P l.cs hP hcs hrel x y hx hy
  have σz:sig P l (zeros P.length)=zeros P.length:=sT _ _ _ _;have itin:∀(k:Nat) v,V P v→V P (iter k (sig P l) v):=fun k v hv=>vK σin k hv
  have ithom:∀(k:Nat) x y,V P x→V P y→iter k (sig P l) (mul P x y)=mul P (iter k (sig P l) x) (iter k (sig P l) y):=by
   intro k
   induction k with
   |zero=>intro _ _ _ _;rfl
   |succ k ih=>intro x y hx hy;simp only[iter];rw[σhom x y hx hy,ih _ _ (σin x hx) (σin y hy)]
  have itz:∀k:Nat,iter k (sig P l) (zeros P.length)=zeros P.length:=by
   intro k
   induction k with
   |zero=>rfl
   |succ k ih=>simp only[iter];rw[σz];exact ih
  have itw:∀k:Nat,iter k (sig P l) l.w=l.w:=by
   intro k
   induction k with
   |zero=>rfl
   |succ k ih=>simp only[iter];rw[hfix];exact ih
  have hun:∀c∈wL P.length,V P c:=by intro c hc;simp only[wL,Jt,Kq]at hc;obtain⟨j,hj,rfl⟩:=hc;exact zCt hP hj
  have inner:∀x,V P x→mul P x l.w=mul P l.w (iter l.o.toNat (sig P l) x):=by intro x hx;have hnf:=normal P hP hM x hx;have hmap:=zOo N.toMon N.toMon (iter l.o.toNat (sig P l)) (fun a ha=>itin _ a ha) (itz _) (fun a b ha hb=>ithom _ a b ha hb) (wL P.length) x hun;rw[←hnf,hmap];refine zHl N.toMon hw _ _ x hun (by simp only[Jt];rintro _ ⟨c,hc,rfl⟩;exact itin _ c (hun c hc)) (by simp) ?_;intro k c d hc hd;rw[K0,Lf]at hd;obtain⟨c',hc',rfl⟩:=hd;rw[hc]at hc';simp at hc';subst hc';obtain⟨hk,rfl⟩:=zPq hc;exact(hinn k hk).symm
  have e:∀(x y z:Vec)(b c:Int),V P x→V P y→V P z→0≤b→0≤c→
    mul P (iter c.toNat (sig P l) (mul P (iter b.toNat (sig P l) x) y)) z=mul P (iter (b+c).toNat (sig P l) x) (mul P (iter c.toNat (sig P l) y) z)∧
    mul P (iter c.toNat (sig P l) (mul P l.w (mul P (iter b.toNat (sig P l) x) y))) z=mul P l.w (mul P (iter (b+c).toNat (sig P l) x) (mul P (iter c.toNat (sig P l) y) z))∧
    (l.o≤b+c→mul P (iter (b+c-l.o).toNat (sig P l) x) (mul P l.w (mul P (iter c.toNat (sig P l) y) z))=mul P l.w (mul P (iter (b+c).toNat (sig P l) x) (mul P (iter c.toNat (sig P l) y) z))):=by
   intro x y z b c hx hy hz hb hcc;have hbx:=itin b.toNat x hx;have hcy:=itin c.toNat y hy;have hbc:iter c.toNat (sig P l) (iter b.toNat (sig P l) x)=iter (b+c).toNat (sig P l) x:=by rw[←zEw];congr 1;omega
   have hbcx:=itin (b+c).toNat x hx;have e1:mul P (iter c.toNat (sig P l) (mul P (iter b.toNat (sig P l) x) y)) z=mul P (iter (b+c).toNat (sig P l) x) (mul P (iter c.toNat (sig P l) y) z):=by rw[ithom _ _ _ hbx hy,hbc,N.assoc hbcx hcy hz]
   refine⟨e1,?_,?_⟩
   ·rw[ithom _ _ _ hw (N.cl hbx hy),itw,N.assoc hw (itin _ _ (N.cl hbx hy)) hz,e1]
   ·intro hge
    have hcyz:=N.cl hcy hz;rw[←N.assoc (itin _ x hx) hw hcyz,inner _ (itin _ x hx),←zEw,N.assoc hw (itin _ x hx) hcyz]
    congr 3
    omega
  refine⟨⟨fun ha hb=>xE h' ha hb,wP h',?_,?_,?_⟩,?_⟩
  ·intro A B C hA hB hC
   match A,B,C,hA,hB,hC with
   |a::x,b::y,c::z,hA,hB,hC=>
    simp only[V]at hA hB hC;obtain⟨e1,e2,e3⟩:=e x y z b c hA.2 hB.2 hC.2 hB.1.1 hC.1.1
    by_cases c1:a+b≥l.o<;>by_cases c2:b+c≥l.o
    ·rw[yW,if_pos c1,yW l P b c,if_pos c2,yW,yW,e2,e3 c2]
     by_cases c3:a+b-l.o+c≥l.o
     ·rw[if_pos c3,if_pos (by omega)];congr 1;omega
     ·rw[if_neg c3,if_neg (by omega)];congr 1;omega
    ·rw[yW,if_pos c1,yW l P b c,if_neg c2,yW,yW,e2,if_neg (by omega),if_pos (by omega)]
     congr 1;omega
    ·rw[yW,if_neg c1,yW l P b c,if_pos c2,yW,yW,e1,e3 c2,if_pos (by omega),if_neg (by omega)]
     congr 1;omega
    ·rw[yW,if_neg c1,yW l P b c,if_neg c2,yW,yW,e1]
     by_cases c3:a+b+c≥l.o
     ·rw[if_pos c3,if_pos (by omega)];congr 1;omega
     ·rw[if_neg c3,if_neg (by omega)];congr 1;omega
  ·intro A hA
   match A,hA with
   |a::x,hA=>
    simp only[V]at hA;show mul (l::P) (0::zeros P.length) (a::x)=_;rw[yW,if_neg (by omega),itz,N.onel hA.2,Lo]
  ·intro A hA
   match A,hA with
   |a::x,hA=>
    simp only[V]at hA;show mul (l::P) (a::x) (0::zeros P.length)=_;rw[yW,if_neg (by omega)];simp only[Hs,iter];rw[N.oner hA.2,Ha]
  ·intro A hA
   match A,hA with
   |a::x,hA=>
    simp only[V]at hA
    by_cases ha:a=0
    ·obtain⟨y,hy,h1⟩:=N.inv hA.2
     refine⟨0::y,by simp only[V];exact⟨by omega,hy⟩,?_⟩;rw[yW,if_neg (by omega)];simp only[Hs,iter];rw[h1,ha];rfl
    ·have hx1:=itin (l.o-a).toNat x hA.2
     obtain⟨y,hy,h1⟩:=N.inv (N.cl hw hx1);refine⟨(l.o-a)::y,by simp only[V];exact⟨by omega,hy⟩,?_⟩;rw[yW,if_pos (by omega),←N.assoc hw hx1 hy,h1,show a+(l.o-a)-l.o=0 by omega];rfl
termination_by P=>P
end Go.Pc

namespace Go.Pl
open Go Go.Ab
theorem bs{α β:Type}(x:α)(f:α→Option β):(some x).bind f=f x:=by simp only[Option.bind_some]
theorem zN{α:Type}(x y:α):cond true x y=x:=by simp only[cond_true]
theorem zL{α:Type}(x y:α):cond false x y=y:=by simp only[cond_false]
theorem zC{n:Int}(h1:-9223372036854775808≤n)(h2:n≤9223372036854775807):rng n=some n:=by unfold rng;rw[if_pos];simp only[inR,J4,decide_eq_true_eq];omega
theorem uF{α:Type}(xs:List α)(i:Nat):ixO xs (i:Int)=xs[i]?:=by unfold ixO;rw[if_pos (by omega)];simp
theorem zAB{α:Type}{xs:List α}{i:Nat}(h:i<xs.length):ixO xs (i:Int)=some xs[i]:=by rw[uF];exact J3 h
theorem xR{n:Nat}(h:n≤68719476736):xF (n:Int)=some n:=by unfold xF;rw[if_pos (by omega)];simp
theorem yO{α:Type}{xs ys:List α}(h:xs.length+ys.length≤68719476736):xU xs ys=some (xs++ys):=by unfold xU;rw[if_pos h]
theorem zZ{σ ρ:Type}{body:σ→Option (σ⊕ρ)}{r:ρ}(S:Nat→σ)(n:Nat)(h:∀i,i<n→body (S i)=some (.inl (S (i+1))))(he:body (S n)=some (.inr r)):zI body (S 0)=some r:=by
 have key:∀k i,i+k=n→zI body (S i)=some r:=by
  intro k
  induction k with
  |zero=>intro i hi;rw[xT,show i=n from by omega,he]
  |succ k ih=>intro i hi;rw[xT,h i (by omega)];exact ih (i+1) (by omega)
 exact key n 0 (by omega)
theorem tC{σ ρ:Type}{body:σ→Option (σ⊕ρ)}{Q:ρ→Prop}(I:Nat→σ→Prop)(n:Nat)(h:∀i s,i<n→I i s→(∃s',body s=some (.inl s')∧I (i+1) s')∨ ∃r,body s=some (.inr r)∧Q r)
  (he:∀s,I n s→ ∃r,body s=some (.inr r)∧Q r){s:σ}(h0:I 0 s):∃r,zI body s=some r∧Q r:=by
 have key:∀k i s,i+k=n→I i s→ ∃r,zI body s=some r∧Q r:=by
  intro k
  induction k with
  |zero=>
   intro i s hi hs;obtain rfl:i=n:=by omega
   obtain⟨r,h1,h2⟩:=he s hs;exact⟨r,by rw[xT,h1],h2⟩
  |succ k ih=>
   intro i s hi hs;rcases h i s (by omega) hs with⟨s',h1,h2⟩|⟨r,h1,h2⟩
   ·rw[xT,h1];exact ih (i+1) s' (by omega) h2
   ·exact⟨r,by rw[xT,h1],h2⟩
 exact key n 0 s (by omega) h0
def zLa{ρ:Type}:Option ρ→Unit⊕ρ
 |none=>.inl ()
 |some r=>.inr r
theorem cs(i:Nat):(i:Int)+1=((i+1:Nat):Int):=by omega
theorem zIF{ρ:Type}{body:Int→Option (Int⊕(Unit⊕ρ))}(n:Nat)(t:Nat→Option ρ)(i0:Nat)(hn:i0≤n)
  (h:∀i,i0≤i→i<n→(∀j,i0≤j→j<i→t j=none)→body (i:Int)=some (match t i with|none=>.inl ((i+1:Nat):Int)|some r=>.inr (.inr r)))
  (he:(∀j,i0≤j→j<n→t j=none)→body (n:Int)=some (.inr (.inl ()))):
  zI body (i0:Int)=some (zLa ((L9 i0 (n-i0)).findSome? t)):=by
 have key:∀k i,i0≤i→i+k=n→(∀j,i0≤j→j<i→t j=none)→zI body (i:Int)=some (zLa ((L9 i k).findSome? t)):=by
  intro k
  induction k with
  |zero=>
   intro i hi hk hp;obtain rfl:i=n:=by omega
   rw[xT,he hp];rfl
  |succ k ih=>
   intro i hi hk hp;rw[xT,h i hi (by omega) hp,Jd6,Jby];cases ht:t i with
   |some r=>rfl
   |none=>
    simp only
    exact ih (i+1) (by omega) (by omega) fun j h1 h2=>by
     rcases Jk j i with h3|h3
     ·exact hp j h1 h3
     ·rw[show j=i from by omega];exact ht
 exact key (n-i0) i0 (Jp _) (by omega) fun j h1 h2=>by omega
theorem zRs{n:Nat}{b:Nat→Bool}:zLa ((L9 0 n).findSome? (fun i=>if b i then none else some false))=if(Jl n).all b then .inl ()else .inr false:=by
 have key:∀l:List Nat,zLa (l.findSome? (fun i=>if b i then none else some false))=if l.all b then .inl ()else .inr false:=by
  intro l
  induction l with
  |nil=>rfl
  |cons x l ih=>
   rw[Jby,Jbt];cases hb:b x
   ·rfl
   ·simpa using ih
 rw[key,Lr]
theorem zIG{body:Int→Option (Int⊕(Unit⊕Bool))}(n:Nat)(b:Nat→Bool)
  (h:∀i,i<n→(∀j,j<i→b j=true)→body (i:Int)=some (if b i then .inl ((i+1:Nat):Int)else .inr (.inr false)))
  (he:(∀j,j<n→b j=true)→body (n:Int)=some (.inr (.inl ()))):
  zI body 0=some (if(Jl n).all b then .inl ()else .inr false):=by
 have:=zIF (body:=body) n (fun i=>if b i then none else some false) 0 (Kk _) (fun i _ hi hp=>by
  rw[h i hi fun j hj=>by
   have:=hp j (Kk _) hj;split at this
   ·assumption
   ·cases this]
  cases b i<;>rfl) (fun hp=>he fun j hj=>by
   have:=hp j (Kk _) hj;split at this
   ·assumption
   ·cases this)
 rw[U7]at this;exact this.trans (congrArg some (zRs (n:=n) (b:=b)))
theorem zRt{α:Type}{xs:List α}{z:α}{i:Nat}(h:i<xs.length):(xs.take i++J1 (xs.length-i) z).set i xs[i]=xs.take (i+1)++J1 (xs.length-(i+1)) z:=by
 have h1:(xs.take i).length=i:=by rw[Ka];omega
 rw[Ge _ _ (by omega),h1,Ku,show xs.length-i=(xs.length-(i+1))+1 from by omega,Jo,Kz,K8 h];simp only[Ja,Hh]
theorem zJ7{α:Type}{f:α→Option α}{body:List α×Int→Option ((List α×Int)⊕List α)}{x0:List α}{z:α}
  (hb:∀s,body s=cond (decide (s.2<(x0.length:Int))) ((ixO x0 s.2).bind fun v2=>(f v2).bind fun r3=>(ixO s.1 s.2).bind fun _=>(rng (s.2+1)).bind fun v5=>some (.inl (s.1.set s.2.toNat r3,v5))) (some (.inr s.1)))
  (hl:x0.length≤68719476736)(hf:∀x∈x0,f x=some x):zI body (J1 x0.length z,0)=some x0:=by
 have:=zZ (body:=body) (r:=x0) (fun i=>(x0.take i++J1 (x0.length-i) z,(i:Int))) x0.length (fun i hi=>by
  rw[hb];simp only[decide_eq_true (show((i:Int))<(x0.length:Int)from by omega),zN];rw[zAB hi,uF];simp only[bs,hf _ (Kj hi)];rw[J3 (by simp;omega),bs,zC (by omega) (by omega),bs];simp only[Je,zRt hi,cs]) (by
  rw[hb];simp only[decide_eq_false (show¬((x0.length:Int))<(x0.length:Int)from by omega),zL,Hg,Ku,He,J9])
 simpa using this
theorem zTV{α:Type}[BEq α]{t:α→α→Option Bool}{body:Int→Option (Int⊕(Unit⊕Bool))}{x y:List α}
  (hb:∀i,body i=cond (decide (i<(x.length:Int))) ((ixO x i).bind fun v1=>(ixO y i).bind fun v2=>(t v1 v2).bind fun r3=>cond (!r3) (some (.inr (.inr false))) ((rng (i+1)).bind fun v4=>some (.inl v4))) (some (.inr (.inl ()))))
  (hl:x.length≤68719476736)(hxy:x.length=y.length)(ht:∀u∈x,∀v∈y,t u v=some (u==v)):zI body 0=some (if x==y then .inl ()else .inr false):=by
 have h:=zIG (body:=body) x.length (fun i=>match x[i]?,y[i]? with|some u,some v=>u==v|_,_=>true) (fun i hi _=>by
  have hi':i<y.length:=by omega
  rw[hb];simp only[decide_eq_true (show((i:Int))<(x.length:Int)from by omega),zN];rw[zAB hi,zAB hi'];simp only[bs,ht _ (Kj hi) _ (Kj hi'),J3 hi,J3 hi'];cases x[i]==y[i]
  ·rfl
  ·simp only[Ky,zL,if_true]
   rw[zC (by omega) (by omega),cs];rfl) (fun _=>by
  rw[hb];simp only[decide_eq_false (show¬((x.length:Int))<(x.length:Int)from by omega),zL])
 rw[h]
 congr 2
 have key:∀(x y:List α),x.length=y.length→((Jl x.length).all (fun i=>match x[i]?,y[i]? with|some u,some v=>u==v|_,_=>true))=(x==y):=by
  intro x
  induction x with
  |nil=>intro y hy;cases y with|nil=>rfl|cons _ _=>simp at hy
  |cons u x ih=>
   intro y hy;cases y with
   |nil=>simp at hy
   |cons v y=>
    rw[J6,Jb1,Jbt,List.all_map];simp only[Ja2,Function.comp_def,Uu];rw[ih y (by simpa using hy)];rfl
 rw[key x y hxy]
theorem zOp{α:Type}[BEq α]{t:α→α→Option Bool}{f:Option Bool}{body:Int→Option (Int⊕(Unit⊕Bool))}{x y:List α}
  (hf:f=cond ((x.length:Int) != (y.length:Int)) (some false) ((zI body 0).bind fun r=>match r with|.inl _=>some true|.inr r=>some r))
  (hb:∀i,body i=cond (decide (i<(x.length:Int))) ((ixO x i).bind fun v1=>(ixO y i).bind fun v2=>(t v1 v2).bind fun r3=>cond (!r3) (some (.inr (.inr false))) ((rng (i+1)).bind fun v4=>some (.inl v4))) (some (.inr (.inl ()))))
  (hl:x.length≤68719476736)(ht:∀u∈x,∀v∈y,t u v=some (u==v)):f=some (x==y):=by
 rw[hf]
 by_cases hxy:x.length=y.length
 ·rw[zTV hb hl hxy ht]
  have:((x.length:Int) != (y.length:Int))=false:=by simp[hxy]
  rw[this];cases x==y<;>rfl
 ·have:((x.length:Int) != (y.length:Int))=true:=by simp;omega
  rw[this];have h2:(x==y)=false:=by
   have key:∀(x y:List α),x.length≠y.length→(x==y)=false:=by
    intro x
    induction x with
    |nil=>intro y hy;cases y with|nil=>simp at hy|cons _ _=>rfl
    |cons u x ih=>
     intro y hy;cases y with
     |nil=>rfl
     |cons v y=>
      show(u==v&&x==y)=false;rw[ih y (by simpa using hy),Bool.and_false]
   exact key x y hxy
  rw[h2];rfl
end Go.Pl

namespace Go.Pl
open Go Go.Ab
def sm{α:Type}(c:α→Nat):List α→Nat
 | []=>0
 |x::xs=>c x+sm c xs
theorem zFr{α:Type}(c:α→Nat):∀xs ys:List α,sm c (xs++ys)=sm c xs+sm c ys
 | [],ys=>by simp[sm]
 |x::xs,ys=>by simp only[Jq,sm,zFr c xs ys];omega
theorem zOq{α:Type}(c:α→Nat){xs:List α}{i:Nat}(h:i<xs.length):sm c (xs.take (i+1))=sm c (xs.take i)+c xs[i]:=by rw[K8 h,zFr];simp[sm]
theorem zHm{α:Type}(c:α→Nat)(xs:List α)(i:Nat):sm c (xs.take i)≤sm c xs:=by have:=zFr c (xs.take i) (xs.drop i);rw[Jbf]at this;omega
theorem zRu{α:Type}(c:α→Nat){xs:List α}{x:α}(h:x∈xs):c x≤sm c xs:=by obtain⟨i,hi,rfl⟩:=G3.1 h;have:=zOq c hi;have:=zHm c xs (i+1);omega
def szR(c:Nat)(b:Int):Int:=if(c:Int)≤b then b-c else -1
theorem zVv{α:Type}{c:α→Nat}{t:α→Int→Option Int}{f:Option Int}{body:Int×Int→Option ((Int×Int)⊕(Int⊕Int))}{xs:List α}{b:Int}
  (hf:f=(rng (b-(xs.length:Int))).bind fun v1=>cond (decide (v1<0)) (some (-1)) ((zI body (v1,0)).bind fun r=>match r with|.inl r=>some r|.inr r=>some r))
  (hb:∀s,body s=cond (decide (s.2<(xs.length:Int))) ((ixO xs s.2).bind fun v2=>(t v2 s.1).bind fun r3=>cond (decide (r3<0)) (some (.inr (.inr (-1)))) ((rng (s.2+1)).bind fun v4=>some (.inl (r3,v4)))) (some (.inr (.inl s.1))))
  (hl:xs.length≤9223372036854775807)(b0:0≤b)(b1:b≤1048576)(ht:∀x∈xs,∀b',0≤b'→b'≤1048576→t x b'=some (szR (c x) b')):f=some (szR (xs.length+sm c xs) b):=by
 rw[hf,zC (by omega) (by omega),bs]
 by_cases h0:b-(xs.length:Int)<0
 ·rw[decide_eq_true h0,zN,szR,if_neg (by omega)]
 ·rw[decide_eq_false h0,zL]
  obtain⟨r,h1,h2⟩:=tC (body:=body) (Q:=fun r=>(match r with|.inl r=>some r|.inr r=>some r)=some (szR (xs.length+sm c xs) b)) (fun i s=>s.2=(i:Int)∧0≤s.1∧s.1=b-xs.length-sm c (xs.take i)) xs.length (fun i s hi ⟨e1,e2,e3⟩=>by
   rw[hb,e1,decide_eq_true (by omega),zN,zAB hi,bs,ht _ (Kj hi) _ e2 (by omega),bs];have h3:=zOq c hi;have h4:=zHm c xs (i+1);unfold szR
   by_cases h5:(c xs[i]:Int)≤s.1
   ·rw[if_pos h5,decide_eq_false (by omega),zL,zC (by omega) (by omega),bs,cs]
    exact .inl ⟨_,rfl,rfl,by simp only;omega,by simp only;omega⟩
   ·rw[if_neg h5]
    refine .inr ⟨.inr (-1),rfl,?_⟩;simp only
    rw[if_neg (by omega)]) (fun s ⟨e1,e2,e3⟩=>by
   rw[hb,e1,decide_eq_false (by omega),zL];rw[Hg]at e3;refine⟨_,rfl,?_⟩;simp only
   rw[szR,if_pos (by omega),e3]
   congr 1;omega) (s:=(b-(xs.length:Int),0)) ⟨rfl,by simp only;omega,by simp[sm]⟩
  rw[h1,bs,h2]
end Go.Pl

namespace Go.Pl
open Go Go.Ab Go.Wk
abbrev VI(n:Int):Prop:=(Lit.int .i64 n).wf=true
abbrev VL{α:Type}(V:α→Prop)(xs:List α):Prop:=xs.length≤maxLen∧ ∀x∈xs,V x
abbrev c1(x:List Int):Nat:=x.length
abbrev c2(x:List (List Int)):Nat:=x.length+sm c1 x
abbrev c3(x:List (List (List Int))):Nat:=x.length+sm c2 x
theorem zLb{x:List Int}{b:Int}(hl:x.length≤9223372036854775807)(b0:0≤b)(b1:b≤1048576):zSq x b=some (szR (c1 x) b):=by
 unfold zSq szR;rw[zC (by omega) (by omega),bs]
 by_cases h:(c1 x:Int)≤b
 ·rw[decide_eq_false (by simp only[c1]at h;omega),zL,if_pos h]
 ·rw[decide_eq_true (by simp only[c1]at h;omega),zN,if_neg h]
theorem zIH{x:List (List Int)}{b:Int}(h:VL (VL VI) x)(b0:0≤b)(b1:b≤1048576):zUw x b=some (szR (c2 x) b):=
 zVv (c:=c1) rfl (fun _=>rfl) h.1 b0 b1 fun y hy _ h1 h2=>zLb (h.2 y hy).1 h1 h2
theorem zMD{x:List (List (List Int))}{b:Int}(h:VL (VL (VL VI)) x)(b0:0≤b)(b1:b≤1048576):zXj x b=some (szR (c3 x) b):=
 zVv (c:=c2) rfl (fun _=>rfl) h.1 b0 b1 fun y hy _ h1 h2=>zIH (h.2 y hy) h1 h2
abbrev S1(x:List Int):Prop:=c1 x≤1048576
abbrev S2(x:List (List Int)):Prop:=c2 x≤1048576
abbrev S3(x:List (List (List Int))):Prop:=c3 x≤1048576
theorem S2.mem{x:List (List Int)}(h:S2 x){y:List Int}(hy:y∈x):S1 y:=by have:=zRu c1 hy;simp only[S2,S1,c2]at h ⊢;omega
theorem S3.mem{x:List (List (List Int))}(h:S3 x){y:List (List Int)}(hy:y∈x):S2 y:=by have:=zRu c2 hy;simp only[S3,S2,c3]at h ⊢;omega
theorem S1.len{x:List Int}(h:S1 x):x.length≤1048576:=h
theorem S2.len{x:List (List Int)}(h:S2 x):x.length≤1048576:=by simp only[S2,c2]at h;omega
theorem S3.len{x:List (List (List Int))}(h:S3 x):x.length≤1048576:=by simp only[S3,c3]at h;omega
theorem zLc{x:List Int}(h:S1 x):zPJ x=some x:=by unfold zPJ;rw[xR (L6 h (by decide)),bs,zJ7 (body:=zSr x) (f:=some) (fun _=>rfl) (L6 h (by decide)) (fun _ _=>rfl),bs]
theorem zII{x:List (List Int)}(h:S2 x):zPK x=some x:=by unfold zPK;rw[xR (L6 h.len (by decide)),bs,zJ7 (body:=zSs x) (f:=zPJ) (fun _=>rfl) (L6 h.len (by decide)) (fun _ hx=>zLc (h.mem hx)),bs]
theorem zME{x:List (List (List Int))}(h:S3 x):zUy x=some x:=by unfold zUy;rw[xR (L6 h.len (by decide)),bs,zJ7 (body:=zSt x) (f:=zPK) (fun _=>rfl) (L6 h.len (by decide)) (fun _ hx=>zII (h.mem hx)),bs]
theorem zLd{x y:List Int}(h:S1 x):zTb x y=some (x==y):=
 zOp (t:=fun u v=>some (u==v)) (body:=zTa x y) rfl (fun _=>rfl) (L6 h.len (by decide)) fun _ _ _ _=>rfl
theorem zIJ{x y:List (List Int)}(h:S2 x):zTd x y=some (x==y):=
 zOp (t:=zTb) (body:=zTc x y) rfl (fun _=>rfl) (L6 h.len (by decide)) fun _ hu _ _=>zLd (h.mem hu)
theorem zMF{x y:List (List (List Int))}(h:S3 x):zXv x y=some (x==y):=
 zOp (t:=zTd) (body:=zTe x y) rfl (fun _=>rfl) (L6 h.len (by decide)) fun _ hu _ _=>zIJ (h.mem hu)
def zOr(x:SPr):Prop:=VL VI x.zA∧VL (VL VI) x.zU∧VL (VL (VL VI)) x.zF
def zLe(x:SPr):Nat:=c1 x.zA+c2 x.zU+c3 x.zF
def zFQ(x:SPr):Prop:=S1 x.zA∧S2 x.zU∧S3 x.zF
theorem zLf{a b:Nat}{n:Int}:(szR a n<0∧szR (a+b) n= -1)∨(0≤szR a n∧szR a n≤n∧szR b (szR a n)=szR (a+b) n∧(a:Int)≤n)∨n<0:=by
 unfold szR
 by_cases h:(a:Int)≤n
 ·rw[if_pos h]
  refine .inr (.inl ⟨by omega,by omega,?_,h⟩)
  by_cases h2:(b:Int)≤n-a
  ·rw[if_pos h2,if_pos (by omega)];omega
  ·rw[if_neg h2,if_neg (by omega)]
 ·rw[if_neg h]
  by_cases h3:n<0
  ·exact .inr (.inr h3)
  ·exact .inl ⟨by omega,by rw[if_neg (by omega)]⟩
theorem zHn{x:SPr}{b:Int}(h:zOr x)(b0:0≤b)(b1:b≤1048576):zUx x b=some (szR (zLe x) b):=by
 obtain⟨h1,h2,h3⟩:=h;unfold zUx zLe;rw[zLb h1.1 b0 b1,bs];rcases zLf (a:=c1 x.zA) (b:=c2 x.zU+c3 x.zF) (n:=b)with⟨g1,g2⟩|⟨g1,g2,g3,g4⟩|g1
 ·rw[decide_eq_true g1,zN,Ls,g2]
 ·rw[decide_eq_false (by omega),zL,zIH h2 g1 (by omega),bs,Ls,←g3]
  generalize szR (c1 x.zA) b=b' at g1 g2
  rcases zLf (a:=c2 x.zU) (b:=c3 x.zF) (n:=b')with⟨k1,k2⟩|⟨k1,k2,k3,k4⟩|k1
  ·rw[decide_eq_true k1,zN,k2]
  ·rw[decide_eq_false (by omega),zL,zMD h3 k1 (by omega),bs,←k3]
   generalize szR (c2 x.zU) b'=b'' at k1 k2
   unfold szR
   by_cases h4:(c3 x.zF:Int)≤b''
   ·rw[if_pos h4,decide_eq_false (by omega),zL]
   ·rw[if_neg h4];rfl
  ·omega
 ·omega
theorem zTW{c:Nat}{b:Int}(b0:0≤b)(b1:b≤1048576):(decide (szR c b<0)=true)∨(decide (szR c b<0)=false∧0≤szR c b∧szR c b≤1048576∧c≤1048576):=by
 unfold szR
 by_cases h:(c:Int)≤b
 ·rw[if_pos h];exact .inr ⟨decide_eq_false (by omega),by omega,by omega,by omega⟩
 ·rw[if_neg h];exact .inl rfl
theorem zFQ.of{x:SPr}(h:zLe x≤1048576):zFQ x:=by unfold zLe at h;exact⟨by simp only[S1];omega,by simp only[S2];omega,by simp only[S3];omega⟩
theorem zHo{x:SPr}(h:zFQ x):zPL x=some x:=by unfold zPL;rw[zLc h.1,bs,zII h.2.1,bs,zME h.2.2,bs]
theorem zHp{x:SPr}(h:zFQ x):zU8 x x=some true:=by unfold zU8;rw[zLd h.1,bs,zIJ h.2.1,bs,zMF h.2.2,bs];simp
end Go.Pl

namespace Go.Pl
open Go Go.Ab Go.Wk
def IsB(o:Option Bool)(P:Prop):Prop:=(o=some true∧P)∨(o=some false∧ ¬P)
theorem IsB.iff{o:Option Bool}{P Q:Prop}(h:IsB o P)(hpq:P↔Q):IsB o Q:=by
 rcases h with⟨h1,h2⟩|⟨h1,h2⟩
 ·exact .inl ⟨h1,hpq.1 h2⟩
 ·exact .inr ⟨h1,fun h=>h2 (hpq.2 h)⟩
theorem IsB.of_bool{b:Bool}{P:Prop}(h:b=true↔P):IsB (some b) P:=by
 cases b
 ·exact .inr ⟨rfl,fun hp=>by have:=h.2 hp;cases this⟩
 ·exact .inl ⟨rfl,h.1 rfl⟩
theorem chk{ρ:Type}{body:Int→Option (Int⊕(Unit⊕ρ))}(n i0:Nat)(hn:i0≤n)(P:Nat→Prop)(bad:Nat→ρ)
  (h:∀i,i0≤i→i<n→(∀j,i0≤j→j<i→P j)→(body (i:Int)=some (.inl ((i+1:Nat):Int))∧P i)∨(body (i:Int)=some (.inr (.inr (bad i)))∧ ¬P i))
  (he:body (n:Int)=some (.inr (.inl ()))):
  (zI body (i0:Int)=some (.inl ())∧ ∀j,i0≤j→j<n→P j)∨ ∃i,i0≤i∧i<n∧zI body (i0:Int)=some (.inr (bad i))∧ ¬P i:=by
 have key:∀k i,i0≤i→i+k=n→(∀j,i0≤j→j<i→P j)→(zI body (i:Int)=some (.inl ())∧ ∀j,i0≤j→j<n→P j)∨ ∃q,i0≤q∧q<n∧zI body (i:Int)=some (.inr (bad q))∧ ¬P q:=by
  intro k
  induction k with
  |zero=>
   intro i hi hk hp;obtain rfl:i=n:=by omega
   exact .inl ⟨by rw[xT,he],hp⟩
  |succ k ih=>
   intro i hi hk hp;rcases h i hi (by omega) hp with⟨h1,h2⟩|⟨h1,h2⟩
   ·have:=ih (i+1) (by omega) (by omega) fun j a b=>by
     rcases Jk j i with c|c
     ·exact hp j a c
     ·rw[show j=i from by omega];exact h2
    rw[xT,h1];exact this
   ·exact .inr ⟨i,hi,by omega,by rw[xT,h1],h2⟩
 exact key (n-i0) i0 (Jp _) (by omega) fun j a b=>by omega
theorem zDL{f:Option Bool}{body:Int→Option (Int⊕(Unit⊕Bool))}(n:Nat)(P:Nat→Prop)
  (hf:f=(zI body 0).bind fun r=>match r with|.inl _=>some true|.inr r=>some r)
  (h:∀i,i<n→(∀j,j<i→P j)→(body (i:Int)=some (.inl ((i+1:Nat):Int))∧P i)∨(body (i:Int)=some (.inr (.inr false))∧ ¬P i))
  (he:body (n:Int)=some (.inr (.inl ()))):IsB f (∀i,i<n→P i):=by
 rcases chk n 0 (Kk _) P (fun _=>false) (fun i _ hi hp=>h i hi fun j hj=>hp j (Kk _) hj) he with⟨h1,h2⟩|⟨i,_,hi,h1,h2⟩
 ·refine .inl ⟨?_,fun i hi=>h2 i (Kk _) hi⟩
  rw[hf];rw[show((0:Nat):Int)=0 from rfl]at h1;rw[h1,bs]
 ·refine .inr ⟨?_,fun hp=>h2 (hp i hi)⟩
  rw[hf];rw[show((0:Nat):Int)=0 from rfl]at h1;rw[h1,bs]
theorem zB9{o:Option Bool}{P:Prop}{ρ:Type}{bad:ρ}{i:Nat}{g:Option (Int⊕(Unit⊕ρ))}(h:IsB o P)(hi:i<9223372036854775807)
  (hg:g=o.bind fun r=>cond (!r) (some (.inr (.inr bad))) ((rng ((i:Int)+1)).bind fun v=>some (.inl v))):(g=some (.inl ((i+1:Nat):Int))∧P)∨(g=some (.inr (.inr bad))∧ ¬P):=by
 subst hg;rcases h with⟨h1,h2⟩|⟨h1,h2⟩
 ·refine .inl ⟨?_,h2⟩
  rw[h1,bs,Ky,zL,zC (by omega) (by omega),bs,cs]
 ·refine .inr ⟨?_,h2⟩
  rw[h1,bs,Kw,zN]
theorem xK{i n:Nat}(h:i<n):decide ((i:Int)<(n:Int))=true:=decide_eq_true (by omega)
theorem xX{n:Nat}:decide ((n:Int)<(n:Int))=false:=decide_eq_false (by omega)
theorem zFR(x a b:Int):IsB (zU3 x a b) (a≤x∧x≤b):=by
 unfold zU3
 by_cases h:x≥a
 ·rw[decide_eq_true h,zN];exact IsB.of_bool (by simp;omega)
 ·rw[decide_eq_false h,zL];exact .inr ⟨rfl,by omega⟩
theorem zLg(x a b:Int):IsB (zXl x a b) (a≤x∧x≤b):=zFR x a b
def Prime(p:Int):Prop:=p=2∨p=3∨p=5∨p=7
theorem zHq(x:Int):IsB (zU2 x) (Prime x):=by
 unfold zU2 Prime
 by_cases h2:x=2
 ·subst h2;exact .inl ⟨rfl,.inl rfl⟩
 ·rw[show(x==2)=false from by simpa using h2,zL]
  by_cases h3:x=3
  ·subst h3;exact .inl ⟨rfl,.inr (.inl rfl)⟩
  ·rw[show(x==3)=false from by simpa using h3,zL]
   by_cases h5:x=5
   ·subst h5;exact .inl ⟨rfl,.inr (.inr (.inl rfl))⟩
   ·rw[show(x==5)=false from by simpa using h5,zL]
    exact IsB.of_bool (by simp;omega)
theorem zMG(x:Int):IsB (zXk x) (Prime x):=zHq x
abbrev at0(v:List Int)(i:Nat):Int:=v.getD i 0
theorem yT{v:List Int}{i:Nat}(h:i<v.length):ixO v (i:Int)=some (at0 v i):=by rw[zAB h,at0,J2,J3 h];rfl
def zW6(os v:List Int):Prop:=v.length=os.length∧ ∀i,i<v.length→0≤at0 v i∧at0 v i≤at0 os i-1
def Exp(os v:List Int)(k:Nat):Prop:=zW6 os v∧ ∀i,i≤k→at0 v i=0
def Os(os:List Int):Prop:=os.length≤9∧ ∀i,i<os.length→Prime (at0 os i)
theorem Prime.pos{p:Int}(h:Prime p):2≤p∧p≤7:=by unfold Prime at h;omega
theorem zFs{x:SPr}{v:List Int}(ho:Os x.zA):IsB (zU4 x v) (zW6 x.zA v):=by
 unfold zU4
 by_cases h:v.length=x.zA.length
 ·rw[show((v.length:Int) != (x.zA.length:Int))=false from by simp[h],zL]
  have h6:=ho.1;refine(zDL v.length (fun i=>0≤at0 v i∧at0 v i≤at0 x.zA i-1) rfl (fun i hi _=>?_) ?_).iff ⟨fun g=>⟨h,g⟩,fun g=>g.2⟩
  ·have hp:=(ho.2 i (by omega)).pos
   refine zB9 (zFR _ _ _) (by omega) ?_;unfold zOW;rw[xK hi,zN,yT hi,bs,yT (by omega),bs,zC (by omega) (by omega),bs]
  ·unfold zOW
   rw[xX,zL]
 ·rw[show((v.length:Int) != (x.zA.length:Int))=true from by simp;omega,zN]
  exact .inr ⟨rfl,fun g=>h g.1⟩
theorem zLh{v:List Int}(hl:v.length≤9):IsB (f_S v) (∀i,i<v.length→at0 v i=0):=by
 refine zDL v.length (fun i=>at0 v i=0) rfl (fun i hi _=>?_) ?_
 ·refine zB9 (o:=some (at0 v i==0)) (IsB.of_bool (by simp)) (by omega) ?_
  unfold zPN;rw[xK hi,zN,yT hi,bs,bs];rfl
 ·unfold zPN
  rw[xX,zL]
theorem zBT{x:SPr}{k:Nat}{v:List Int}(ho:Os x.zA)(hk:k<x.zA.length):IsB (zS7 x k v) (Exp x.zA v k):=by
 have h6:=ho.1;unfold zS7;rcases zFs (v:=v) ho with⟨h1,h2⟩|⟨h1,h2⟩
 ·have hl:=h2.1
  rw[h1,bs,zN,zC (by omega) (by omega),bs];have hs:yB v 0 ((k:Int)+1)=some (v.take (k+1)):=by
   unfold yB;rw[if_pos (by omega)];simp only[Hs,G4,U7]
   congr 2
  rw[hs,bs];have hb:=zLh (v:=v.take (k+1)) (by rw[Ka];omega);have hiff:(∀i,i<(v.take (k+1)).length→at0 (v.take (k+1)) i=0)↔Exp x.zA v k:=by
   have e:∀i,i≤k→at0 (v.take (k+1)) i=at0 v i:=fun i hi=>by simp only[at0,J2,H3];rw[if_pos (by omega)]
   rw[Ka,Qi (by omega)];exact⟨fun g=>⟨h2,fun i hi=>by rw[←e i hi];exact g i (by omega)⟩,fun g i hi=>by rw[e i (by omega)];exact g.2 i (by omega)⟩
  rcases hb.iff hiff with⟨g1,g2⟩|⟨g1,g2⟩
  ·rw[g1,bs];exact .inl ⟨rfl,g2⟩
  ·rw[g1,bs];exact .inr ⟨rfl,g2⟩
 ·rw[h1,bs,zL]
  exact .inr ⟨rfl,fun g=>h2 g.1⟩
theorem zCw{os v:List Int}{k:Nat}(ho:Os os)(hk:k<os.length):IsB (zSu os v k) (Exp os v k):=by
 have h6:=ho.1;unfold zSu
 by_cases h:v.length=os.length
 ·rw[show((v.length:Int) != (os.length:Int))=false from by simp[h],zL]
  refine(zDL v.length (fun i=>(0≤at0 v i∧at0 v i≤at0 os i-1)∧(i≤k→at0 v i=0)) rfl (fun i hi _=>?_) ?_).iff ⟨fun g=>⟨⟨h,fun i hi=>(g i hi).1⟩,fun i hi=>(g i (by omega)).2 hi⟩,fun g i hi=>⟨g.1.2 i hi,fun hk=>g.2 i hk⟩⟩
  ·have hp:=(ho.2 i (by omega)).pos
   unfold zOU;rw[xK hi,zN,yT hi,bs,yT (by omega),bs,zC (by omega) (by omega),bs];rcases zLg (at0 v i) 0 (at0 os i-1)with⟨h1,h2⟩|⟨h1,h2⟩
   ·rw[h1,bs,Ky,zL]
    by_cases h3:(i:Int)≤(k:Int)
    ·rw[decide_eq_true h3,zN,bs]
     by_cases h4:at0 v i=0
     ·rw[show(at0 v i != 0)=false from by simp only[h4];rfl,zL,zC (by omega) (by omega),bs,cs]
      exact .inl ⟨rfl,h2,fun _=>h4⟩
     ·rw[show(at0 v i != 0)=true from by simpa using h4,zN]
      exact .inr ⟨rfl,fun g=>h4 (g.2 (by omega))⟩
    ·rw[decide_eq_false h3,zL,zC (by omega) (by omega),bs,cs]
     exact .inl ⟨rfl,h2,fun g=>absurd (by omega) h3⟩
   ·rw[h1,bs,Kw,zN]
    exact .inr ⟨rfl,fun g=>h2 g.1⟩
  ·unfold zOU
   rw[xX,zL]
 ·rw[show((v.length:Int) != (os.length:Int))=true from by simp;omega,zN]
  exact .inr ⟨rfl,fun g=>h g.1.1⟩
end Go.Pl

namespace Go.Pl
open Go Go.Ab Go.Wk
theorem zZN{σ ρ:Type}{body:σ→Option (σ⊕(Unit⊕ρ))}(S:Nat→σ)(n i0:Nat)(hn:i0≤n)(P:Nat→Prop)(bad:Nat→ρ)
  (h:∀i,i0≤i→i<n→(∀j,i0≤j→j<i→P j)→(body (S i)=some (.inl (S (i+1)))∧P i)∨(body (S i)=some (.inr (.inr (bad i)))∧ ¬P i))
  (he:body (S n)=some (.inr (.inl ()))):
  (zI body (S i0)=some (.inl ())∧ ∀j,i0≤j→j<n→P j)∨ ∃i,i0≤i∧i<n∧zI body (S i0)=some (.inr (bad i))∧ ¬P i:=by
 have key:∀k i,i0≤i→i+k=n→(∀j,i0≤j→j<i→P j)→(zI body (S i)=some (.inl ())∧ ∀j,i0≤j→j<n→P j)∨ ∃q,i0≤q∧q<n∧zI body (S i)=some (.inr (bad q))∧ ¬P q:=by
  intro k
  induction k with
  |zero=>
   intro i hi hk hp;obtain rfl:i=n:=by omega
   exact .inl ⟨by rw[xT,he],hp⟩
  |succ k ih=>
   intro i hi hk hp;rcases h i hi (by omega) hp with⟨h1,h2⟩|⟨h1,h2⟩
   ·have:=ih (i+1) (by omega) (by omega) fun j a b=>by
     rcases Jk j i with c|c
     ·exact hp j a c
     ·rw[show j=i from by omega];exact h2
    rw[xT,h1];exact this
   ·exact .inr ⟨i,hi,by omega,by rw[xT,h1],h2⟩
 exact key (n-i0) i0 (Jp _) (by omega) fun j a b=>by omega
theorem zCx{a b:Int}(h:a=b):(a != b)=false:=by simp[h]
theorem zBU{a b:Int}(h:a≠b):(a != b)=true:=by simp[h]
def pr(os:List Int):Nat→Int
 |0=>1
 |i+1=>pr os i*at0 os i
def cp(os:List Int):Nat→Int
 |0=>1
 |i+1=>if cp os i≤729 then cp os i*at0 os i else cp os i
theorem zFt{os:List Int}:∀{i:Nat},(∀j,j<i→Prime (at0 os j))→1≤pr os i
 |0,_=>by simp[pr]
 |i+1,h=>by
  have h1:=zFt (os:=os) (i:=i) fun j hj=>h j (by omega)
  have h2:=(h i (by omega)).pos;simp only[pr];have:(1:Int)*1≤pr os i*at0 os i:=Lt h1 (by omega) (by omega) (by omega);omega
theorem zOs{os:List Int}{i:Nat}(h:∀j,j≤i→Prime (at0 os j)):pr os i≤pr os (i+1):=by
 have h1:=zFt (os:=os) (i:=i) fun j hj=>h j (by omega)
 have h2:=(h i (Jp _)).pos;simp only[pr];have:pr os i*1≤pr os i*at0 os i:=Ja6 (by omega) (by omega);omega
theorem zJ8{os:List Int}{n:Nat}(h:∀j,j<n→Prime (at0 os j)):∀k,k≤n→pr os (n-k)≤pr os n
 |0,_=>Int.le_refl _
 |k+1,hk=>by
  have h1:=zJ8 h k (by omega);have h2:=zOs (os:=os) (i:=n-(k+1)) fun j hj=>h j (by omega)
  rw[show n-(k+1)+1=n-k from by omega]at h2;omega
theorem zRv{os:List Int}:∀{i:Nat},(∀j,j<i→Prime (at0 os j))→(cp os i=pr os i∧pr os i≤729∨729<cp os i∧cp os i≤5103∧729<pr os i)
 |0,_=>by simp[cp,pr]
 |i+1,h=>by
  have h0:∀j,j<i→Prime (at0 os j):=fun j hj=>h j (by omega)
  have h2:=(h i (by omega)).pos;have h3:=zOs (os:=os) (i:=i) fun j hj=>h j (by omega)
  have hpp:=zFt h0;simp only[cp];rcases zRv h0 with⟨h1,h4⟩|⟨h1,h4,h5⟩
  ·rw[h1,if_pos h4]
   have h6:pr os i*at0 os i≤729*7:=Lt h4 h2.2 (by omega) (by omega);simp only[pr]at h3 ⊢
   generalize pr os i*at0 os i=b at h3 h6 ⊢
   simp only[true_and];omega
  ·rw[if_neg (by omega)]
   omega
def zFS(x:SPr)(i:Nat):Prop:=Exp x.zA (x.zU.getD i []) i∧(x.zF.getD i []).length+i+1=x.zA.length∧ ∀j,j<(x.zF.getD i []).length→Exp x.zA ((x.zF.getD i []).getD j []) i
structure zFT (x:SPr):Prop where
 os:True∧ ∀i,i<x.zA.length→Prime (at0 x.zA i)
 pl:x.zU.length=x.zA.length
 cl:x.zF.length=x.zA.length
 tl:∀i,i<x.zA.length→zFS x i
structure Pres (x:SPr):Prop where
 os:Os x.zA
 pl:x.zU.length=x.zA.length
 cl:x.zF.length=x.zA.length
 tl:∀i,i<x.zA.length→zFS x i
theorem Pres.w{x:SPr}(h:Pres x):zFT x:=⟨⟨trivial,h.os.2⟩,h.pl,h.cl,h.tl⟩
structure zCy (x:SPr):Prop extends Pres x where
 n6:x.zA.length≤6
 pr:pr x.zA x.zA.length≤729
theorem xD{α:Type}{v:List α}{i:Nat}(d:α)(h:i<v.length):ixO v (i:Int)=some (v.getD i d):=by rw[zAB h,J2,J3 h];rfl
theorem zMH{x:SPr}(ho:Os x.zA)(hp:x.zU.length=x.zA.length)(hc:x.zF.length=x.zA.length){i:Nat}(hi:i<x.zA.length):
  (zNz x i=some (.inl ((i+1:Nat):Int))∧zFS x i)∨(zNz x i=some (.inr (.inr false))∧ ¬zFS x i):=by
 have h6:=ho.1;unfold zNz;rw[xK hi,zN,xD [] (by omega),bs];rcases zBT (v:=x.zU.getD i []) ho hi with⟨h1,h2⟩|⟨h1,h2⟩
 ·rw[h1,bs,Ky,zL,xD [] (by omega),bs,zC (by omega) (by omega),bs,zC (by omega) (by omega),bs]
  by_cases hl:(x.zF.getD i []).length+i+1=x.zA.length
  ·rw[zCx (by omega),zL,bs]
   rcases chk (body:=zS8 x i (x.zF.getD i [])) (x.zF.getD i []).length 0 (Kk _) (fun j=>Exp x.zA ((x.zF.getD i []).getD j []) i) (fun _=>false) (fun j _ hj _=>by
     refine zB9 (zBT ho hi) (by omega) ?_;unfold zS8;rw[xK hj,zN,xD [] hj,bs]) (by
     unfold zS8;rw[xX,zL])with⟨g1,g2⟩|⟨j,_,hj,g1,g2⟩
   ·rw[show((0:Nat):Int)=0 from rfl]at g1
    rw[g1,bs];simp only
    rw[zC (by omega) (by omega),bs,cs];exact .inl ⟨rfl,h2,hl,fun j hj=>g2 j (Kk _) hj⟩
   ·rw[show((0:Nat):Int)=0 from rfl]at g1
    rw[g1,bs];exact .inr ⟨rfl,fun g=>g2 (g.2.2 j hj)⟩
  ·rw[zBU (by omega),zN]
   exact .inr ⟨rfl,fun g=>hl g.2.1⟩
 ·rw[h1,bs,Kw,zN]
  exact .inr ⟨rfl,fun g=>h2 g.1⟩
theorem zMI{x:SPr}(ho:Os x.zA)(hp:x.zU.length=x.zA.length)(hc:x.zF.length=x.zA.length){i:Nat}(hi:i<x.zA.length):
  (zNv x i=some (.inl ((i+1:Nat):Int))∧zFS x i)∨(zNv x i=some (.inr (.inr false))∧ ¬zFS x i):=by
 have h6:=ho.1;unfold zNv;rw[xK hi,zN,xD [] (by omega),bs];rcases zCw (v:=x.zU.getD i []) ho hi with⟨h1,h2⟩|⟨h1,h2⟩
 ·rw[h1,bs,Ky,zL,xD [] (by omega),bs,zC (by omega) (by omega),bs,zC (by omega) (by omega),bs]
  by_cases hl:(x.zF.getD i []).length+i+1=x.zA.length
  ·rw[zCx (by omega),zL]
   rcases chk (body:=zSw x i) (x.zF.getD i []).length 0 (Kk _) (fun j=>Exp x.zA ((x.zF.getD i []).getD j []) i) (fun _=>false) (fun j _ hj _=>by
     refine zB9 (zCw ho hi) (by omega) ?_;unfold zSw;rw[xD [] (by omega),bs,xK hj,zN,bs,xD [] hj,bs]) (by
     unfold zSw;rw[xD [] (by omega),bs,xX,zL])with⟨g1,g2⟩|⟨j,_,hj,g1,g2⟩
   ·rw[show((0:Nat):Int)=0 from rfl]at g1
    rw[g1,bs];simp only
    rw[zC (by omega) (by omega),bs,cs];exact .inl ⟨rfl,h2,hl,fun j hj=>g2 j (Kk _) hj⟩
   ·rw[show((0:Nat):Int)=0 from rfl]at g1
    rw[g1,bs];exact .inr ⟨rfl,fun g=>g2 (g.2.2 j hj)⟩
  ·rw[zBU (by omega),zN]
   exact .inr ⟨rfl,fun g=>hl g.2.1⟩
 ·rw[h1,bs,Kw,zN]
  exact .inr ⟨rfl,fun g=>h2 g.1⟩
theorem zLi{x:SPr}(h6:x.zA.length≤6):
  (zI (zNy x) (1,0)=some (.inl ())∧Os x.zA∧pr x.zA x.zA.length≤729)∨(zI (zNy x) (1,0)=some (.inr false)∧ ¬(Os x.zA∧pr x.zA x.zA.length≤729)):=by
 rcases zZN (body:=zNy x) (fun i=>(pr x.zA i,(i:Int))) x.zA.length 0 (Kk _) (fun i=>Prime (at0 x.zA i)∧pr x.zA (i+1)≤729) (fun _=>false) (fun i _ hi hpre=>by
   have hp:∀j,j<i→Prime (at0 x.zA j):=fun j hj=>(hpre j (Kk _) hj).1
   have hpp:=zFt hp;have hle:pr x.zA i≤729:=by
    cases i with
    |zero=>simp[pr]
    |succ i=>exact(hpre i (Kk _) (by omega)).2
   unfold zNy;rw[xK hi,zN,yT hi,bs];rcases zHq (at0 x.zA i)with⟨h1,h2⟩|⟨h1,h2⟩
   ·have h3:=h2.pos
    have h4:pr x.zA i*at0 x.zA i≤729*7:=Lt hle h3.2 (by omega) (by omega);have h5:1*1≤pr x.zA i*at0 x.zA i:=Lt hpp (by omega) (by omega) (by omega);simp only
    rw[h1,bs,Ky,zL,zC (by omega) (by omega),bs]
    by_cases h7:pr x.zA i*at0 x.zA i> 729
    ·rw[decide_eq_true h7,zN]
     exact .inr ⟨rfl,fun g=>by have:=g.2;simp only[pr]at this;omega⟩
    ·rw[decide_eq_false h7,zL,bs,zC (by omega) (by omega),bs,cs]
     exact .inl ⟨rfl,h2,by simp only[pr];omega⟩
   ·rw[h1,bs,Kw,zN]
    exact .inr ⟨rfl,fun g=>h2 g.1⟩) (by
   unfold zNy;rw[xX,zL])with⟨g1,g2⟩|⟨i,_,hi,g1,g2⟩
 ·refine .inl ⟨g1,⟨by omega,fun i hi=>(g2 i (Kk _) hi).1⟩,?_⟩
  cases hn:x.zA.length with
  |zero=>simp[pr]
  |succ n=>exact(g2 n (Kk _) (by omega)).2
 ·refine .inr ⟨g1,fun⟨h1,h2⟩=>g2 ⟨h1.2 i hi,?_⟩⟩
  have:=zJ8 (os:=x.zA) (n:=x.zA.length) h1.2 (x.zA.length-(i+1)) (by omega);rw[show x.zA.length-(x.zA.length-(i+1))=i+1 from by omega]at this;omega
theorem zJ9{os:List Int}(ho:Os os):zUz os=some (cp os os.length):=by
 have h6:=ho.1;unfold zUz;rw[show(1,0)=(fun i=>(cp os i,(i:Int))) 0 from rfl,zZ (body:=zLT os) (r:=cp os os.length) (fun i=>(cp os i,(i:Int))) os.length (fun i hi=>by
  have hp:=(ho.2 i hi).pos;have hc:=zRv (os:=os) (i:=i) fun j hj=>ho.2 j (by omega)
  have hpp:=zFt (os:=os) (i:=i) fun j hj=>ho.2 j (by omega)
  unfold zLT;rw[xK hi,zN];simp only[cp]
  by_cases h:cp os i≤729
  ·have h4:cp os i*at0 os i≤729*7:=Lt h hp.2 (by omega) (by omega)
   have h5:1*1≤cp os i*at0 os i:=Lt (by omega) (by omega) (by omega) (by omega);rw[decide_eq_true h,zN,yT hi,bs,zC (by omega) (by omega),bs,zC (by omega) (by omega),bs,cs,if_pos h]
  ·rw[decide_eq_false h,zL,zC (by omega) (by omega),bs,cs,if_neg h]) (by
  unfold zLT;rw[xX,zL]),bs]
theorem zDk{x:SPr}(hl:x.zA.length≤1048576):IsB (f_t x) (zCy x):=by
 unfold f_t
 by_cases h6:x.zA.length≤6
 ·rw[decide_eq_false (by omega),zL]
  by_cases hp:x.zU.length=x.zA.length
  ·rw[zCx (by omega),zL]
   by_cases hc:x.zF.length=x.zA.length
   ·rw[zCx (by omega),zL]
    rcases zLi h6 with⟨h1,h2,h3⟩|⟨h1,h2⟩
    ·rw[h1,bs]
     exact(zDL (f:=(zI (zNz x) 0).bind fun r=>match r with|.inl _=>some true|.inr r=>some r) x.zA.length (zFS x) rfl (fun i hi _=>zMH h2 hp hc hi) (by unfold zNz;rw[xX,zL])).iff ⟨fun g=>⟨⟨h2,hp,hc,g⟩,h6,h3⟩,fun g=>g.tl⟩
    ·rw[h1,bs]
     exact .inr ⟨rfl,fun g=>h2 ⟨g.os,g.pr⟩⟩
   ·rw[zBU (by omega),zN]
    exact .inr ⟨rfl,fun g=>hc g.cl⟩
  ·rw[zBU (by omega),zN]
   exact .inr ⟨rfl,fun g=>hp g.pl⟩
 ·rw[decide_eq_true (by omega),zN]
  exact .inr ⟨rfl,fun g=>h6 g.n6⟩
theorem zDl{x:SPr}(hl:x.zA.length≤1048576):IsB (f_x x) (zCy x):=by
 unfold f_x
 by_cases h6:x.zA.length≤6
 ·rw[decide_eq_false (by omega),zL]
  by_cases hp:x.zU.length=x.zA.length
  ·rw[zCx (by omega),zL]
   by_cases hc:x.zF.length=x.zA.length
   ·rw[zCx (by omega),zL]
    rcases chk (body:=zSv x) x.zA.length 0 (Kk _) (fun i=>Prime (at0 x.zA i)) (fun _=>false) (fun i _ hi _=>by
      refine zB9 (zMG _) (by omega) ?_;unfold zSv;rw[xK hi,zN,yT hi,bs]) (by
      unfold zSv;rw[xX,zL])with⟨g1,g2⟩|⟨i,_,hi,g1,g2⟩
    ·rw[show((0:Nat):Int)=0 from rfl]at g1
     have ho:Os x.zA:=⟨by omega,fun i hi=>g2 i (Kk _) hi⟩;have hcp:=zRv (os:=x.zA) (i:=x.zA.length) ho.2;rw[g1,bs];simp only
     rw[zJ9 ho,bs]
     by_cases h7:cp x.zA x.zA.length> 729
     ·rw[decide_eq_true h7,zN]
      exact .inr ⟨rfl,fun g=>by have:=g.pr;omega⟩
     ·rw[decide_eq_false h7,zL]
      exact(zDL (f:=(zI (zNv x) 0).bind fun r=>match r with|.inl _=>some true|.inr r=>some r) x.zA.length (zFS x) rfl (fun i hi _=>zMI ho hp hc hi) (by unfold zNv;rw[xX,zL])).iff ⟨fun g=>⟨⟨ho,hp,hc,g⟩,h6,by omega⟩,fun g=>g.tl⟩
    ·rw[show((0:Nat):Int)=0 from rfl]at g1
     rw[g1,bs];exact .inr ⟨rfl,fun g=>g2 (g.os.2 i hi)⟩
   ·rw[zBU (by omega),zN]
    exact .inr ⟨rfl,fun g=>hc g.cl⟩
  ·rw[zBU (by omega),zN]
   exact .inr ⟨rfl,fun g=>hp g.pl⟩
 ·rw[decide_eq_true (by omega),zN]
  exact .inr ⟨rfl,fun g=>h6 g.n6⟩
end Go.Pl

namespace Go.Pl
open Go Go.Ab Go.Wk Go.Pc
def lvl(x:SPr)(i:Nat):Lvl:=⟨at0 x.zA i,(x.zU.getD i []).drop (i+1),(x.zF.getD i []).map (·.drop (i+1))⟩
def suf(x:SPr)(k:Nat):Pcp:=(L9 k (x.zA.length-k)).map (lvl x)
theorem yM(x:SPr)(k:Nat):(suf x k).length=x.zA.length-k:=by simp[suf]
theorem yE{x:SPr}{k:Nat}(h:k<x.zA.length):suf x k=lvl x k::suf x (k+1):=by unfold suf;rw[show x.zA.length-k=(x.zA.length-(k+1))+1 from by omega,Jd6,Ju]
theorem vP{x:SPr}{k:Nat}(h:x.zA.length≤k):suf x k=[]:=by unfold suf;rw[show x.zA.length-k=0 from by omega];rfl
theorem zAj{os v:List Int}{k:Nat}(h:Exp os v k)(hk:k<os.length):v=zeros (k+1)++v.drop (k+1):=by
 have h1:=h.1.1;apply La;intro i;rw[L4];simp only[zeros,Jh,Kr,Ko];split
 ·rename_i hi
  have h2:=h.2 i (by omega);rw[J3 (by omega)];rw[at0,J2,J3 (by omega)]at h2;simpa using h2
 ·rw[show k+1+(i-(k+1))=i from by omega]
theorem zW7{x:SPr}:∀(d k:Nat)(v:List Int),k+d=x.zA.length→v.length=d→(∀i,i<d→0≤at0 v i∧at0 v i≤at0 x.zA (k+i)-1)→V (suf x k) v
 |0,k,v,hk,hv,_=>by rw[vP (by omega)];simpa[V]using hv
 |d+1,k,v,hk,hv,h=>by
  rw[yE (by omega)]
  match v,hv with
  |a::v,hv=>
   have h0:=h 0 (by omega);simp only[at0,Lu,U8]at h0;refine⟨⟨h0.1,by simp only[lvl,at0];omega⟩,zW7 d (k+1) v (by omega) (by simpa using hv) fun i hi=>?_⟩;have:=h (i+1) (by omega);simp only[at0,Ub]at this;rw[show k+1+i=k+(i+1)from by omega];exact this
theorem jI{x:SPr}{v:List Int}{k:Nat}(h:Exp x.zA v k)(hk:k<x.zA.length):V (suf x (k+1)) (v.drop (k+1)):=by
 have h1:=h.1.1;refine zW7 (x.zA.length-(k+1)) (k+1) _ (by omega) (by rw[K1];omega) fun i hi=>?_
 have:=h.1.2 (k+1+i) (by omega);have e:at0 (v.drop (k+1)) i=at0 v (k+1+i):=by simp only[at0,J2,Ko]
 rw[e];exact this
theorem zFT.ok{x:SPr}(h:zFT x):∀(d k:Nat),k+d=x.zA.length→Pc.Ok (suf x k)
 |0,k,hk=>by rw[vP (by omega)];simp only[Pc.Ok]
 |d+1,k,hk=>by
  rw[yE (by omega)];obtain⟨t1,t2,t3⟩:=h.tl k (by omega);refine⟨by simp only[lvl];have:=(h.os.2 k (by omega)).pos;omega,jI t1 (by omega),?_,fun c hc=>?_,zFT.ok h d (k+1) (by omega)⟩
  ·rw[yM];simp only[lvl,Jc];omega
  ·simp only[lvl,Jt]at hc
   obtain⟨u,hu,rfl⟩:=hc;obtain⟨j,hj,rfl⟩:=G3.1 hu;have:=t3 j hj;rw[J2,J3 hj]at this;exact jI this (by omega)
theorem zFT.okAt{x:SPr}(h:zFT x){k:Nat}(hk:k≤x.zA.length):Pc.Ok (suf x k):=h.ok (x.zA.length-k) k (by omega)
theorem Pres.okAt{x:SPr}(h:Pres x){k:Nat}(hk:k≤x.zA.length):Pc.Ok (suf x k):=h.w.okAt hk
theorem yA(n:Nat):(zeros n).length=n:=by simp[zeros]
theorem zFU(k:Nat):zeros (k+1)=zeros k++[0]:=by simp[zeros,H4]
theorem zDw{k:Nat}{a b:Int}{v:Vec}:(zeros k++a::v).set k b=zeros k++b::v:=by rw[Ge _ _ (by rw[yA];omega),yA,Ku,Kz]
theorem zCz{k:Nat}{a:Int}{v:Vec}:ixO (zeros k++a::v) (k:Int)=some a:=by rw[uF,J8 (by rw[yA];omega),yA,Ku];rfl
theorem zBA{k:Nat}{v:Vec}:zeros k++0::v=zeros (k+1)++v:=by rw[zFU,Ja];rfl
theorem qJ{v:List Int}(h:v.length≤1000000):f_y v=some v:=by unfold f_y;rw[yO (by simp;omega),bs,Ji]
end Go.Pl

namespace Go.Pl
open Go Go.Ab Go.Wk Go.Pc
theorem zBk{m:Vec→Vec→Vec}:∀(cs:List Vec)(x:Vec)(i:Nat)(acc:Vec),i<cs.length→i<x.length→
  img m (cs.take (i+1)) (x.take (i+1)) acc=iter (at0 x i).toNat (fun v=>m v (cs.getD i [])) (img m (cs.take i) (x.take i) acc)
 | [],_,_,_,h,_=>by simp at h
 |_::_,[],_,_,_,h=>by simp at h
 |c::cs,a::x,0,acc,_,_=>by simp only[Jf,K9,K6,img,at0,Lu]
 |c::cs,a::x,i+1,acc,h,h'=>by simp only[K9,img,at0,Ub];exact zBk cs x i _ (by simpa using h) (by simpa using h')
theorem uS{α β:Type}{body:α×Int→Option ((α×Int)⊕α)}{S:β→Prop}(e:β→α)(g:β→β)(n:Int)(hn:0≤n)(hS:∀a,S a→S (g a))
  (h:∀a(i:Nat),S a→(i:Int)<n→body (e a,(i:Int))=some (.inl (e (g a),((i+1:Nat):Int))))(he:∀a,S a→body (e a,n)=some (.inr (e a))){a:β}(ha:S a):
  zI body (e a,0)=some (e (iter n.toNat g a)):=by
 have hit:∀k,S (iter k g a):=fun k=>vK (S:=S) hS k ha
 exact zZ (body:=body) (r:=e (iter n.toNat g a)) (fun i=>(e (iter i g a),(i:Int))) n.toNat (fun i hi=>by
  rw[h _ i (hit i) (by omega),wW]) (by
  rw[show((n.toNat:Nat):Int)=n from by omega];exact he _ (hit _))
theorem zLj{k i:Nat}{v:Vec}(h:i<v.length):ixO (zeros k++v) ((k+i:Nat):Int)=some (at0 v i):=by rw[uF,J8 (by rw[yA];omega),yA,show k+i-k=i from by omega,J3 h,at0,J2,J3 h];rfl
theorem zDM{x:SPr}(ho:Os x.zA):∀(d k:Nat)(v:List Int),k+d=x.zA.length→V (suf x k) v→v.length=d∧ ∀i,i<d→0≤at0 v i∧at0 v i<at0 x.zA (k+i)∧at0 v i≤6
 |0,k,v,hk,hv=>by rw[vP (by omega)]at hv;simp only[V]at hv;subst hv;exact⟨rfl,fun i hi=>by omega⟩
 |d+1,k,v,hk,hv=>by
  rw[yE (by omega)]at hv
  match v,hv with
  |a::v,hv=>
   obtain⟨h1,h2⟩:=zDM ho d (k+1) v (by omega) hv.2;refine⟨by simp[h1],fun i hi=>?_⟩;cases i with
   |zero=>
    have h3:=hv.1;simp only[lvl]at h3;have:=(ho.2 k (by omega)).pos;simp only[at0,Lu,U8]at h3 this ⊢
    omega
   |succ i=>
    have:=h2 i (by omega);simp only[at0,Ub]at this ⊢
    rw[show k+(i+1)=k+1+i from by omega];exact this
theorem zEz{x:SPr}(h:Pres x){k i:Nat}(hk:k<x.zA.length)(hi:i<x.zA.length-(k+1)):
  ∃c,ixO x.zF (k:Int)=some (x.zF.getD k [])∧ixO (x.zF.getD k []) (i:Int)=some (zeros (k+1)++c)∧V (suf x (k+1)) c∧(lvl x k).cs.getD i []=c:=by
 obtain⟨t1,t2,t3⟩:=h.tl k hk;have hc:=h.cl;have ht:=t3 i (by omega);refine⟨((x.zF.getD k []).getD i []).drop (k+1),xD [] (by omega),?_,jI ht hk,?_⟩
 ·rw[xD [] (by omega),←zAj ht hk]
 ·simp only[lvl,J2,K0]
  rw[J3 (l:=x.zF[k]?.getD []) (by rw[J2]at t2;omega)];rfl
def FAt(x:SPr)(k:Nat)(g:SPr→Int→List Int→List Int→Option (List Int)):Prop:=
 ∀a b,V (suf x k) a→V (suf x k) b→g x k (zeros k++a) (zeros k++b)=some (zeros k++mul (suf x k) a b)
def FIm(x:SPr)(k:Nat)(g:SPr→Int→List Int→Option (List Int)):Prop:=
 ∀v,V (suf x (k+1)) v→g x k (zeros (k+1)++v)=some (zeros (k+1)++sig (suf x (k+1)) (lvl x k) v)
theorem zMJ{x:SPr}(h:Pres x){k:Nat}(hk:k<x.zA.length){g:SPr→Int→List Int→List Int→Option (List Int)}(hg:FAt x (k+1) g):FIm x k (b_g g):=by
 intro v hv;have h6:=h.os.1;have ok:=h.okAt (k:=k+1) (by omega);obtain⟨hvl,hvr⟩:=zDM h.os (x.zA.length-(k+1)) (k+1) v (by omega) hv;have hlen:=yM x (k+1);have hcl:(lvl x k).cs.length=x.zA.length-(k+1):=by have:=h.okAt (k:=k) (by omega);rw[yE hk]at this;rw[this.2.2.1,hlen]
 have hcs:∀c∈(lvl x k).cs,V (suf x (k+1)) c:=by have:=h.okAt (k:=k) (by omega);rw[yE hk]at this;exact this.2.2.2.1
 have hA:∀i,V (suf x (k+1)) (img (mul (suf x (k+1))) ((lvl x k).cs.take i) (v.take i) (zeros (suf x (k+1)).length)):=fun i=>
  jA (xE ok) _ _ (fun c hc=>hcs c (Gz hc)) (wP ok)
 unfold b_g;rw[xR (by omega),bs,zC (by omega) (by omega),bs,cs];have hz:J1 x.zA.length (0:Int)=zeros (k+1)++zeros (suf x (k+1)).length:=by rw[hlen];simp only[zeros,Jv];congr 1;omega
 rw[hz];have:=zZ (body:=zSy g x k (zeros (k+1)++v)) (r:=zeros (k+1)++sig (suf x (k+1)) (lvl x k) v)
  (fun i=>(zeros (k+1)++img (mul (suf x (k+1))) ((lvl x k).cs.take i) (v.take i) (zeros (suf x (k+1)).length),((k+1+i:Nat):Int))) (x.zA.length-(k+1)) (fun i hi=>by
  have hr:=hvr i hi;obtain⟨c,c1,c2,c3,c4⟩:=zEz h hk hi;unfold zSy;rw[decide_eq_true (by simp only;omega),zN];rw[uS (S:=V (suf x (k+1))) (body:=zSx g x k (zeros (k+1)++v) (zeros (k+1)++img (mul (suf x (k+1))) ((lvl x k).cs.take i) (v.take i) (zeros (suf x (k+1)).length),((k+1+i:Nat):Int))) (fun u=>zeros (k+1)++u) (fun u=>mul (suf x (k+1)) u c) (at0 v i) hr.1 (fun u hu=>xE ok hu c3) (fun u q hu hq=>by
   unfold zSx;simp only
   rw[zLj (by omega),bs,decide_eq_true hq,zN,zC (by omega) (by omega),bs,c1,bs,zC (by omega) (by omega),bs,zC (by omega) (by omega),bs,
    show(((k+1+i:Nat):Int)-(k:Int)-1)=(i:Int)from by omega,c2,bs,cs,hg u c hu c3,bs,zC (by omega) (by omega),bs,cs]) (fun u hu=>by
   unfold zSx;simp only
   rw[zLj (by omega),bs,decide_eq_false (by omega),zL]) (hA i),bs,zC (by omega) (by omega),bs,cs]
  rw[zBk _ _ _ _ (by omega) (by omega),c4];rfl) (by
  unfold zSy;rw[decide_eq_false (by simp only;omega),zL,Jr (by omega),Jr (by omega)];rfl)
 simp only[K6,img]at this;rw[this,bs]
theorem zTX{x:SPr}(h:Pres x){k:Nat}(hk:k<x.zA.length){g:SPr→Int→List Int→List Int→Option (List Int)}{gi:SPr→Int→List Int→Option (List Int)}(hg:FAt x (k+1) g)(hi:FIm x k gi):FAt x k (b_a gi g):=by
 intro a b ha hb;have h6:=h.os.1;have hp:=(h.os.2 k hk).pos;have ok:=h.okAt (k:=k+1) (by omega);have ok0:=h.okAt (k:=k) (by omega);obtain⟨hal,har⟩:=zDM h.os (x.zA.length-k) k a (by omega) ha;obtain⟨hbl,hbr⟩:=zDM h.os (x.zA.length-k) k b (by omega) hb;rw[yE hk]at ha hb ok0;obtain⟨a0,a,rfl⟩:∃a0 a',a=a0::a':=by cases a with|nil=>simp at hal;omega|cons p q=>exact⟨p,q,rfl⟩
 obtain⟨b0,b,rfl⟩:∃a0 a',b=a0::a':=by cases b with|nil=>simp at hbl;omega|cons p q=>exact⟨p,q,rfl⟩
 obtain⟨⟨a1,a2⟩,ha⟩:=ha;obtain⟨⟨b1,b2⟩,hb⟩:=hb;have hor:(lvl x k).o=at0 x.zA k:=rfl;rw[hor]at a2 b2;unfold b_a;rw[decide_eq_false (by omega),zL,qJ (by simp[yA]at hal ⊢;omega),bs,qJ (by simp[yA]at hbl ⊢;omega),bs,zCz,bs,zCz,bs,Je,zDw,zDw,zBA,zBA];have hsig:∀u,V (suf x (k+1)) u→V (suf x (k+1)) (sig (suf x (k+1)) (lvl x k) u):=fun u hu=>zCu ok0 hu
 have hit:V (suf x (k+1)) (iter b0.toNat (sig (suf x (k+1)) (lvl x k)) a):=vK hsig _ ha;rw[uS (S:=V (suf x (k+1))) (fun u=>zeros (k+1)++u) (sig (suf x (k+1)) (lvl x k)) b0 b1 hsig (fun u q hu hq=>by
   unfold zU0;simp only
   rw[zCz,bs,decide_eq_true hq,zN,hi u hu,bs,zC (by omega) (by omega),bs,cs]) (fun u hu=>by
   unfold zU0;simp only
   rw[zCz,bs,decide_eq_false (by omega),zL]) ha,bs,zC (by omega) (by omega),bs,cs,hg _ _ hit hb,bs,bs,bs,zC (by omega) (by omega),bs,yT hk,bs]
 have hm:=xE ok hit hb;have hml:=(zDM h.os (x.zA.length-(k+1)) (k+1) _ (by omega) hm).1;have own:∀u,V (suf x (k+1)) u→f_y (zeros (k+1)++u)=some (zeros (k+1)++u):=fun u hu=>qJ (by have:=(zDM h.os (x.zA.length-(k+1)) (k+1) _ (by omega) hu).1;rw[J5,yA];omega)
 rw[yE hk,yW,hor]
 by_cases hge:a0+b0≥at0 x.zA k
 ·have t1:=(h.tl k hk).1
  have hw:=jI t1 hk;have hwl:=h.pl;rw[decide_eq_true hge,zN,if_pos hge,bs,zC (by omega) (by omega),bs,bs,xD [] (by omega),bs,zAj t1 hk,hg _ _ hw hm,bs,own _ (xE ok hw hm),bs];rw[←zBA,zCz,bs,zDw];rfl
 ·rw[decide_eq_false hge,zL,if_neg hge,own _ hm,bs,←zBA,zCz,bs,zDw]
theorem zFu{x:SPr}(h:Pres x):∀(d k:Nat),k+d=x.zA.length→(∀m,2*d+1≤m→FAt x k (zNx m))∧(1≤d→ ∀m,2*d≤m→FIm x k (zNw m))
 |0,k,hk=>by refine⟨fun m hm a b ha hb=>?_,fun h=>by omega⟩;have h6:=h.os.1;obtain⟨m,rfl⟩:∃m',m=m'+1:=⟨m-1,by omega⟩;show b_a _ _ x k _ _=_;unfold b_a;rw[decide_eq_true (by omega),zN,xR (by omega),bs,vP (by omega)];simp only[mul,J9,zeros];rw[show k=x.zA.length from by omega]
 |d+1,k,hk=>by
  obtain⟨h1,h2⟩:=zFu h d (k+1) (by omega);have hI:∀m,2*(d+1)≤m→FIm x k (zNw m):=fun m hm=>by obtain⟨m,rfl⟩:∃m',m=m'+1:=⟨m-1,by omega⟩;exact zMJ h (by omega) (h1 m (by omega))
  refine⟨fun m hm=>?_,fun _=>hI⟩;obtain⟨m,rfl⟩:∃m',m=m'+1:=⟨m-1,by omega⟩;exact zTX h (by omega) (h1 m (by omega)) (hI m (by omega))
theorem zOt{x:SPr}(h:Pres x){k:Nat}(hk:k≤x.zA.length):FAt x k f_a:=fun a b ha hb=>
 zBh (2*(x.zA.length-k)+1) fun m hm=>(zFu h (x.zA.length-k) k (by omega)).1 m hm a b ha hb
theorem zMK{x:SPr}(h:Pres x){k:Nat}(hk:k<x.zA.length):FIm x k f_g:=fun v hv=>
 zBh (2*(x.zA.length-k)) fun m hm=>(zFu h (x.zA.length-k) k (by omega)).2 (by omega) m hm v hv
end Go.Pl

namespace Go.Pl
open Go Go.Ab Go.Wk Go.Pc
theorem zC0:∀{P Q:Pcp},Q<:+P→wQ P→wQ Q
 | [],Q,h,_=>by have:=Jbw.1 h;subst this;simp only[wQ]
 |l::P,Q,h,hc=>by
  rcases Jat.1 h with rfl|h
  ·exact hc
  ·exact zC0 h hc.1
theorem zIK:∀{P Q:Pcp},Q<:+P→Pc.Ok P→Pc.Ok Q
 | [],Q,h,_=>by have:=Jbw.1 h;subst this;simp only[Pc.Ok]
 |l::P,Q,h,hc=>by
  rcases Jat.1 h with rfl|h
  ·exact hc
  ·exact zIK h hc.2.2.2.2
theorem zML(x:SPr)(k:Nat):suf x (k+1)<:+suf x k:=by
 by_cases h:k<x.zA.length
 ·rw[yE h];exact Qj _ _
 ·rw[vP (by omega)];exact List.nil_suffix
theorem zE0{x:SPr}{k:Nat}(h:wQ (suf x k)):∀i,wQ (suf x (k+i))
 |0=>h
 |i+1=>zC0 (zML x (k+i)) (zE0 h i)
theorem zHr{x:SPr}(h:Pres x){k:Nat}(hk:k≤x.zA.length)(hc:wQ (suf x k)):Grp (V (suf x k)) (mul (suf x k)) (zeros (suf x k).length):=zCv _ (h.okAt hk) hc
theorem zGp{x:SPr}:∀(i k:Nat)(v:Vec),k+i≤x.zA.length→V (suf x k) v→ ∃q v',v=q++v'∧q.length=i∧V (suf x (k+i)) v'∧
  ∀a b,V (suf x (k+i)) a→V (suf x (k+i)) b→mul (suf x k) (q++a) (zeros i++b)=q++mul (suf x (k+i)) a b
 |0,k,v,_,hv=>⟨[],v,rfl,rfl,hv,fun a b _ _=>rfl⟩
 |i+1,k,v,hk,hv=>by
  rw[yE (by omega)]at hv
  match v,hv with
  |e::v,hv=>
   obtain⟨q,v',h1,h2,h3,h4⟩:=zGp i (k+1) v (by omega) hv.2;rw[show k+1+i=k+(i+1)from by omega]at h3 h4;refine⟨e::q,v',by rw[h1];rfl,by simp[h2],h3,fun a b ha hb=>?_⟩;have he:=hv.1;rw[yE (by omega)];show mul (lvl x k::suf x (k+1)) (e::(q++a)) (0::(zeros i++b))=_;rw[yW,Ha,if_neg (by omega)];simp only[Hs,iter];rw[h4 a b ha hb];rfl
def FTV(x:SPr)(k:Nat)(g:SPr→List Int→List Int→Option (List Int)):Prop:=
 ∀p v u,p.length=k→V (suf x k) v→V (suf x k) u→g x (p++v) (zeros k++u)=some (p++mul (suf x k) v u)
def FTG(x:SPr)(k:Nat)(g:SPr→List Int→Int→Option (List Int)):Prop:=
 ∀p v,p.length=k→V (suf x k) v→g x (p++v) (k:Int)=some (p++mul (suf x k) v (1::zeros (x.zA.length-(k+1))))
theorem zIL{x:SPr}(h:Pres x){k:Nat}(hk:k<x.zA.length){g:SPr→List Int→List Int→Option (List Int)}(hg:FTV x (k+1) g){t:Vec}(ht:V (suf x (k+1)) t)
  {body1:List Int×Int→Int→List Int×Int→Option ((List Int×Int)⊕List Int)}{body2:List Int×Int→Option ((List Int×Int)⊕List Int)}
  (hb2:∀s,body2 s=cond (decide (s.2<(t.length:Int))) ((ixO t s.2).bind fun v17=>(zI (body1 s v17) (s.1,0)).bind fun r=>(rng (s.2+1)).bind fun v=>some (.inl (r,v))) (some (.inr s.1)))
  (hb1:∀s v q,body1 s v q=cond (decide (q.2<v)) ((ixO x.zF (k:Int)).bind fun cl=>(ixO cl s.2).bind fun c=>(g x q.1 c).bind fun r=>(rng (q.2+1)).bind fun w=>some (.inl (r,w))) (some (.inr q.1)))
  {p:Vec}(hp:p.length=k+1){u:Vec}(hu:V (suf x (k+1)) u):zI body2 (p++u,0)=some (p++img (mul (suf x (k+1))) (lvl x k).cs t u):=by
 have h6:=h.os.1;have ok:=h.okAt (k:=k+1) (by omega);have ok0:=h.okAt (k:=k) (by omega);rw[yE hk]at ok0;obtain⟨htl,htr⟩:=zDM h.os (x.zA.length-(k+1)) (k+1) t (by omega) ht;have hcl:(lvl x k).cs.length=x.zA.length-(k+1):=by rw[ok0.2.2.1,yM]
 have hA:∀i,V (suf x (k+1)) (img (mul (suf x (k+1))) ((lvl x k).cs.take i) (t.take i) u):=fun i=>
  jA (xE ok) _ _ (fun c hc=>ok0.2.2.2.1 c (Gz hc)) hu
 have:=zZ (body:=body2) (r:=p++img (mul (suf x (k+1))) (lvl x k).cs t u) (fun i=>(p++img (mul (suf x (k+1))) ((lvl x k).cs.take i) (t.take i) u,(i:Int))) t.length (fun i hi=>by
  have hr:=htr i (by omega);obtain⟨c,c1,c2,c3,c4⟩:=zEz h hk (i:=i) (by omega);rw[hb2];simp only
  rw[xK hi,zN,yT hi,bs];rw[uS (S:=V (suf x (k+1))) (fun u=>p++u) (fun u=>mul (suf x (k+1)) u c) (at0 t i) hr.1 (fun u hu=>xE ok hu c3) (fun u q hu hq=>by
   rw[hb1];simp only
   rw[decide_eq_true hq,zN,c1,bs,c2,bs,hg p u c hp hu c3,bs,zC (by omega) (by omega),bs,cs]) (fun u hu=>by
   rw[hb1];simp only
   rw[decide_eq_false (by omega),zL]) (hA i),bs,zC (by omega) (by omega),bs,cs]
  rw[zBk _ _ _ _ (by omega) (by omega),c4]) (by
  rw[hb2];simp only
  rw[xX,zL,Jr (by omega),Jr (by omega)])
 simp only[K6,img]at this;exact this
theorem zVw{p v:Vec}{a:Int}{k:Nat}(hp:p.length=k):ixO (p++a::v) (k:Int)=some a:=by rw[uF,J8 (by omega),hp,Ku];rfl
theorem p_set{p v:Vec}{a b:Int}{k:Nat}(hp:p.length=k):(p++a::v).set k b=p++b::v:=by rw[Ge _ _ (by omega),hp,Ku,Kz]
theorem zLk{x:SPr}(h:Pres x){k:Nat}(hk:k<x.zA.length)(hc:wQ (suf x (k+1))){g:SPr→List Int→List Int→Option (List Int)}(hg:FTV x (k+1) g):FTG x k (b_b g):=by
 intro p v hp hv;have h6:=h.os.1;have G:=zHr h (k:=k+1) (by omega) hc;have ok:=h.okAt (k:=k+1) (by omega);have ok0:=h.okAt (k:=k) (by omega);obtain⟨hvl,hvr⟩:=zDM h.os (x.zA.length-k) k v (by omega) hv;rw[yE hk]at hv ok0;obtain⟨e,t,rfl⟩:∃a0 a',v=a0::a':=by cases v with|nil=>simp at hvl;omega|cons p q=>exact⟨p,q,rfl⟩
 obtain⟨⟨e1,e2⟩,ht⟩:=hv;have hor:(lvl x k).o=at0 x.zA k:=rfl;rw[hor]at e2;have hpr:=(h.os.2 k hk).pos;have htl:=(zDM h.os (x.zA.length-(k+1)) (k+1) t (by omega) ht).1;have hsl:=yM x (k+1);unfold b_b;have hs:yB (p++e::t) ((k+1:Nat):Int) ((p++e::t).length:Int)=some t:=by
  unfold yB;rw[if_pos (by simp only[J5,J6];omega)];have e3:(p++e::t).drop (k+1)=t:=by rw[Jbs,Jb5 (by omega),hp,show k+1-k=1 from by omega];rfl
  simp only[Je,e3,J5,J6];rw[Jr (by omega)]
 have hclone:f_E t=some t:=by unfold f_E;rw[yO (by simp;omega),bs,Ji]
 rw[zC (by omega) (by omega),bs,cs,hs,bs,hclone,bs];have hz:=zZ (body:=zS9 k t) (r:=(p++[e])++zeros t.length) (fun i=>((p++[e])++(zeros i++t.drop i),(i:Int))) t.length (fun i hi=>by
  have hl:((p++[e])++zeros i).length=k+1+i:=by simp[yA,hp];omega
  unfold zS9;simp only
  rw[xK hi,zN,zC (by omega) (by omega),bs,zC (by omega) (by omega),bs,show(k:Int)+1+(i:Int)=((k+1+i:Nat):Int)from by omega,uF,←Ja,J8 (by omega),hl,Ku,
   G8 hi,Ja2,bs,zC (by omega) (by omega),bs,cs,Je,Ge _ _ (by omega),hl,Ku,Kz,zFU]
  simp only[Ja,Jq,Ji]) (by
  unfold zS9;simp only
  rw[xX,zL,List.drop_length,J9])
 simp only[zeros,He,G4,Ji,Ja,Hh]at hz;rw[show((0:Nat):Int)=0 from rfl]at hz;rw[hz,bs,Je,zVw hp,bs,zC (by omega) (by omega),bs,bs,p_set hp,zVw hp,bs,yT hk,bs];have hz2:J1 t.length (0:Int)=zeros (suf x (k+1)).length:=by rw[hsl,htl];rfl
 rw[yE hk,yW,hor];have hone:mul (suf x (k+1)) (iter (1:Int).toNat (sig (suf x (k+1)) (lvl x k)) t) (zeros (x.zA.length-(k+1)))=sig (suf x (k+1)) (lvl x k) t:=by rw[←hsl];show mul _ (sig (suf x (k+1)) (lvl x k) t) _=_;exact G.oner (zCu ok0 ht)
 rw[hone,hz2]
 by_cases heq:e+1=at0 x.zA k
 ·have t1:=(h.tl k hk).1
  have hw:=jI t1 hk;have hwl:=h.pl;have hp1:(p++[(0:Int)]).length=k+1:=by simp[hp]
  rw[show(e+1==at0 x.zA k)=true from by simpa using heq,zN,if_pos (by omega),bs,xD [] (by omega),bs,p_set hp];have hz3:p++0::zeros (suf x (k+1)).length=(p++[0])++zeros (suf x (k+1)).length:=by simp
  rw[hz3,zAj t1 hk,hg _ _ _ hp1 G.ein hw,bs,G.onel hw];rw[zIL (body1:=zXp g x k) (body2:=zXq g x k t) h hk hg ht (fun _=>rfl) (fun _ _ _=>rfl) hp1 hw,bs];rw[zEy G.toMon _ _ ok0.2.2.2.1 hw,show e+1-at0 x.zA k=0 from by omega];simp only[Ja,Hh];rfl
 ·have hp1:(p++[e+1]).length=k+1:=by simp[hp]
  rw[show(e+1==at0 x.zA k)=false from by simpa using heq,zL,if_neg (by omega)];have hz3:p++(e+1)::zeros (suf x (k+1)).length=(p++[e+1])++zeros (suf x (k+1)).length:=by simp
  rw[hz3,zIL (body1:=zXr g x k) (body2:=zXs g x k t) h hk hg ht (fun _=>rfl) (fun _ _ _=>rfl) hp1 G.ein,bs];simp only[Ja,Hh];rfl
theorem zAe{n i:Nat}(h:i<n):xJ n i=zeros i++1::zeros (n-(i+1)):=by
 have:zeros n=zeros i++0::zeros (n-(i+1)):=by
  simp only[zeros];rw[←Jo,Jv]
  congr 1;omega
 rw[xJ,this,zDw]
theorem zE1(n:Nat):(wL n).length=n:=by simp[wL]
theorem zHs{n i:Nat}(h:i<n):(wL n).getD i []=xJ n i:=by simp[wL,J2,h]
theorem zRw{x:SPr}(h:Pres x){k:Nat}(hk:k≤x.zA.length)(hc:wQ (suf x k)){g:SPr→List Int→Int→Option (List Int)}(hg:∀j,k≤j→j<x.zA.length→FTG x j g):FTV x k (b_c g):=by
 intro p v u hp hv hu;have h6:=h.os.1;have G:=zHr h hk hc;have ok:=h.okAt hk;obtain⟨hul,hur⟩:=zDM h.os (x.zA.length-k) k u (by omega) hu;have hsl:=yM x k;have hV1:∀j,j≤x.zA.length→j<x.zA.length→V (suf x j) (1::zeros (x.zA.length-(j+1))):=fun j hj hj'=>by rw[yE hj'];have:=(h.os.2 j hj').pos;refine⟨⟨by omega,by show 1<at0 x.zA j;omega⟩,?_⟩;rw[←yM];exact wP (h.okAt (by omega))
 have hUn:∀i,i<x.zA.length-k→V (suf x k) (xJ (x.zA.length-k) i):=fun i hi=>by
  rw[←hsl]at hi ⊢
  exact zCt ok hi
 have hUs:∀c∈wL (x.zA.length-k),V (suf x k) c:=fun c hc=>by simp only[wL,Jt,Kq]at hc;obtain⟨i,hi,rfl⟩:=hc;exact hUn i hi
 have hA:∀i,V (suf x k) (img (mul (suf x k)) ((wL (x.zA.length-k)).take i) (u.take i) v):=fun i=>
  jA (xE ok) _ _ (fun c hc=>hUs c (Gz hc)) hv
 have hgen:∀i w,i<x.zA.length-k→V (suf x k) w→g x (p++w) ((k+i:Nat):Int)=some (p++mul (suf x k) w (xJ (x.zA.length-k) i)):=fun i w hi hw=>by obtain⟨q,w',h1,h2,h3,h4⟩:=zGp i k w (by omega) hw;have h5:=hg (k+i) (by omega) (by omega) (p++q) w' (by simp[hp,h2]) h3;rw[Ja,←h1]at h5;rw[h5,zAe hi,h1,show x.zA.length-k-(i+1)=x.zA.length-(k+i+1)from by omega,h4 w' _ h3 (hV1 (k+i) (by omega) (by omega)),Ja]
 unfold b_c;have hul2:(zeros k++u).length=x.zA.length:=by simp[yA];omega
 have:=zZ (body:=zSB g x (zeros k++u)) (r:=p++mul (suf x k) v u) (fun j=>(p++img (mul (suf x k)) ((wL (x.zA.length-k)).take (j-k)) (u.take (j-k)) v,(j:Int))) x.zA.length (fun j hj=>by
  unfold zSB;simp only
  rw[hul2,xK hj,zN];rcases Jk j k with hjk|hjk
  ·have e0:ixO (zeros k++u) (j:Int)=some 0:=by
    rw[uF,Jm (by rw[yA];exact hjk)];simp[zeros,hjk]
   rw[e0,bs,show j-k=0 from by omega,show j+1-k=0 from by omega];rw[xT];unfold zSA;simp only
   rw[show decide ((0:Int)<0)=false from rfl,zL];simp only
   rw[bs,zC (by omega) (by omega),bs,cs]
  ·obtain⟨i,rfl⟩:∃i,j=k+i:=⟨j-k,by omega⟩
   have hi:i<x.zA.length-k:=by omega
   have hr:=hur i hi;rw[zLj (by omega),bs,show k+i-k=i from by omega,show k+i+1-k=i+1 from by omega];rw[uS (S:=V (suf x k)) (fun w=>p++w) (fun w=>mul (suf x k) w (xJ (x.zA.length-k) i)) (at0 u i) hr.1 (fun w hw=>xE ok hw (hUn i hi)) (fun w q hw hq=>by
    unfold zSA;simp only
    rw[decide_eq_true hq,zN,hgen i w hi hw,bs,zC (by omega) (by omega),bs,cs]) (fun w hw=>by
    unfold zSA;simp only
    rw[decide_eq_false (by omega),zL]) (hA i),bs,zC (by omega) (by omega),bs,cs]
   rw[zBk _ _ _ _ (by rw[zE1];exact hi) (by omega),zHs hi]) (by
  unfold zSB;simp only
  rw[hul2,xX,zL,Jr (by rw[zE1];omega),Jr (by omega),zEy G.toMon _ _ hUs hv];have hn:=normal (suf x k) ok (fun Q hQ=>(zCv Q (zIK hQ ok) (zC0 hQ hc)).toMon) u hu;rw[hsl]at hn ⊢
  rw[hn])
 simp only[Jcm,K6,img]at this;rw[show((0:Nat):Int)=0 from rfl]at this;rw[this,bs]
theorem zFv{x:SPr}(h:Pres x):∀(d k:Nat),k+d=x.zA.length→wQ (suf x k)→(∀m,2*d+1≤m→FTV x k (zPO m))
 |d,k,hk,hc=>fun m hm=>by
  obtain⟨m,rfl⟩:∃m',m=m'+1:=⟨m-1,by omega⟩;refine zRw h (by omega) hc fun j hj hjn=>?_
  obtain⟨m,rfl⟩:∃m',m=m'+1:=⟨m-1,by omega⟩;have hcj:wQ (suf x (j+1)):=by
   have:=zE0 hc (j+1-k)
   rwa [show k+(j+1-k)=j+1 from by omega]at this
  exact zLk h hjn hcj (zFv h (x.zA.length-(j+1)) (j+1) (by omega) hcj m (by omega))
 termination_by d=>d
 decreasing_by omega
theorem zTY{x:SPr}(h:Pres x){k:Nat}(hk:k≤x.zA.length)(hc:wQ (suf x k)):FTV x k f_c:=fun p v u hp hv hu=>
 zBh (2*(x.zA.length-k)+1) fun m hm=>zFv h (x.zA.length-k) k (by omega) hc m hm p v u hp hv hu
theorem zTZ{x:SPr}(h:Pres x){k:Nat}(hk:k<x.zA.length)(hc:wQ (suf x (k+1))):FTG x k f_b:=fun p v hp hv=>
 zBh (2*(x.zA.length-k)) fun m hm=>by obtain⟨m,rfl⟩:∃m',m=m'+1:=⟨m-1,by omega⟩;exact zLk h hk hc (zFv h (x.zA.length-(k+1)) (k+1) (by omega) hc m (by omega)) p v hp hv
end Go.Pl

namespace Go.Pl
open Go Go.Ab Go.Wk Go.Pc
abbrev fv(k:Nat)(v:Vec):Vec:=zeros k++v
section
variable {x:SPr} (h:Pres x) {k:Nat} (hk:k≤x.zA.length) (hc:wQ (suf x k))
 include h hk
theorem wY{v:Vec}(hv:V (suf x k) v):v.length=x.zA.length-k:=(zDM h.os (x.zA.length-k) k v (by omega) hv).1
theorem zC1{v:Vec}(hv:V (suf x k) v):(fv k v).length=x.zA.length:=by rw[J5,yA,wY h hk hv];omega
theorem zOu:J1 x.zA.length (0:Int)=fv k (zeros (suf x k).length):=by
 have _:=h;rw[yM];simp only[fv,zeros,Jv];congr 1;omega
 include hc
theorem zMM{i:Nat}(hi:i<x.zA.length-k):V (suf x k) (xJ (x.zA.length-k) i):=by
 have _:=hc;have:=yM x k;rw[←this]at hi ⊢
 exact zCt (h.okAt hk) hi
theorem zLl{p:Vec}(hp:p.length=k){i:Nat}(hi:i<x.zA.length-k){w:Vec}(hw:V (suf x k) w):f_b x (p++w) ((k+i:Nat):Int)=some (p++mul (suf x k) w (xJ (x.zA.length-k) i)):=by
 obtain⟨q,w',h1,h2,h3,h4⟩:=zGp i k w (by omega) hw;have hcj:wQ (suf x (k+i+1)):=zE0 hc (i+1);have h5:=zTZ h (k:=k+i) (by omega) hcj (p++q) w' (by simp[hp,h2]) h3;have h7:V (suf x (k+i)) (1::zeros (x.zA.length-(k+i+1))):=by
  have hj':k+i<x.zA.length:=by omega
  rw[yE hj'];have:=(h.os.2 (k+i) hj').pos;refine⟨⟨by omega,by show 1<at0 x.zA (k+i);omega⟩,?_⟩;rw[←yM];exact wP (h.okAt (by omega))
 rw[Ja,←h1]at h5;rw[h5,zAe hi,h1,show x.zA.length-k-(i+1)=x.zA.length-(k+i+1)from by omega,h4 w' _ h3 h7,Ja]
theorem zHt{a b:Vec}(ha:V (suf x k) a)(hb:V (suf x k) b):f_c x (fv k a) (fv k b)=some (fv k (mul (suf x k) a b)):=
 zTY h hk hc (zeros k) a b (yA k) ha hb
theorem zLm{a:Vec}(ha:V (suf x k) a):f_E (fv k a)=some (fv k a):=by have _:=hc;have:=zC1 h hk ha;have h6:=h.os.1;unfold f_E;rw[yO (by simp only[Jw];omega),bs,Ji]
theorem zDx{a b:Vec}(ha:V (suf x k) a)(hb:V (suf x k) b):zSG x (fv k a) (fv k b)=some (fv k (mul (suf x k) a b)):=by unfold zSG;rw[zLm h hk hc ha,bs,zHt h hk hc ha hb,bs]
theorem zMN{c:Vec}(hcv:V (suf x k) c){e:Int}(e0:0≤e)(e1:e≤1000):zU5 x (fv k c) e=some (fv k (pw (mul (suf x k)) (zeros (suf x k).length) c e.toNat)):=by
 have h6:=h.os.1;have ok:=h.okAt hk;unfold zU5;rw[zC1 h hk hcv,xR (by omega),bs,zOu h hk];rw[uS (S:=V (suf x k)) (body:=zLW x (fv k c) e) (fun u=>fv k u) (fun u=>mul (suf x k) u c) e e0 (fun u hu=>xE ok hu hcv) (fun u i hu hi=>by
  unfold zLW;simp only
  rw[decide_eq_true hi,zN,zHt h hk hc hu hcv,bs,zC (by omega) (by omega),bs,cs]) (fun u hu=>by
  unfold zLW;simp only
  rw[decide_eq_false (by omega),zL]) (wP ok),bs]
 rfl
theorem zLn{v:Vec}(hv:V (suf x k) v):∃w,V (suf x k) w∧mul (suf x k) v w=zeros (suf x k).length∧f_F x (fv k v)=some (fv k w):=by
 have h6:=h.os.1;have ok:=h.okAt hk;have G:=zHr h hk hc;have hvl:=zC1 h hk hv;have hsl:=yM x k;unfold f_F;rw[zLm h hk hc hv,bs,hvl,xR (by omega),bs,zOu h hk]
 let I:Nat→(List Int×List Int×Int)→Prop:=fun j s=> ∃A w,s=(fv k A,fv k w,(j:Int))∧V (suf x k) A∧V (suf x k) w∧mul (suf x k) v w=A∧ ∃A',A=zeros (j-k)++A'
 have key:=tC (body:=zSF x (fv k v)) (Q:=fun r=> ∃w,V (suf x k) w∧mul (suf x k) v w=zeros (suf x k).length∧r=fv k w) I x.zA.length (fun j s hj hI=>by
  obtain⟨A,w,rfl,hA,hw,hm,A',hA'⟩:=hI;left;unfold zSF;simp only
  rw[hvl,xK hj,zN];rcases Jk j k with hjk|hjk
  ·have e0:ixO (fv k A) (j:Int)=some 0:=by
    rw[uF,Jm (by rw[yA];exact hjk)];simp[zeros,hjk]
   rw[xT];unfold zPP;simp only
   rw[e0,bs,show((0:Int) != 0)=false from rfl,zL];simp only
   rw[bs,zC (by omega) (by omega),bs,cs];exact⟨_,rfl,A,w,rfl,hA,hw,hm,A,by rw[show j+1-k=0 from by omega];rfl⟩
  ·obtain⟨i,rfl⟩:∃i,j=k+i:=⟨j-k,by omega⟩
   have hi:i<x.zA.length-k:=by omega
   rw[show k+i-k=i from by omega]at hA';have hAl:=wY h hk hA;obtain⟨a0,A',rfl⟩:∃p q,A'=p::q:=by
    cases A' with
    |nil=>rw[hA',J5,yA,Jw]at hAl;omega
    |cons p q=>exact⟨p,q,rfl⟩
   have hpr:=(h.os.2 (k+i) hj).pos;have inner:=tC (body:=zPP x (fv k A,fv k w,((k+i:Nat):Int))) (s:=(fv k A,fv k w))
    (Q:=fun r=> ∃B u,r=(fv k B,fv k u)∧V (suf x k) B∧V (suf x k) u∧mul (suf x k) v u=B∧ ∃B',B=zeros (i+1)++B')
    (fun q s=> ∃B u b B',s=(fv k B,fv k u)∧V (suf x k) B∧V (suf x k) u∧mul (suf x k) v u=B∧B=zeros i++b::B'∧(b=0∨b=a0+q)) 10 (fun q s hq hs=>by
     obtain⟨B,u,b,B',rfl,hB,hu,hmu,hB',hb⟩:=hs;have hz:ixO (fv k B) ((k+i:Nat):Int)=some b:=by rw[fv,zLj (by rw[wY h hk hB];exact hi),hB',at0,J2,J8 (by rw[yA];omega),yA,Ku];rfl
     unfold zPP;simp only
     rw[hz,bs]
     by_cases hb0:b=0
     ·subst hb0
      right;rw[show((0:Int) != 0)=false from rfl,zL];exact⟨_,rfl,B,u,rfl,hB,hu,hmu,B',by rw[hB',zBA]⟩
     ·left
      have hbq:b=a0+q:=by rcases hb with hb|hb;exact absurd hb hb0;exact hb
      rw[show(b != 0)=true from by simpa using hb0,zN,zLl h hk hc (yA k) hi hB,bs,zLl h hk hc (yA k) hi hu,bs];have hU:=zMM h hk hc hi;obtain⟨q',v',h1,h2,h3,h4⟩:=zGp i k B (by omega) hB;have hqv:q'=zeros i∧v'=b::B':=by rw[hB']at h1;have:=List.append_inj h1 (by rw[yA,h2]);exact⟨this.1.symm,this.2.symm⟩
      obtain⟨rfl,rfl⟩:=hqv;have h7:V (suf x (k+i)) (1::zeros (x.zA.length-(k+i+1))):=by rw[yE hj];refine⟨⟨by omega,by show 1<at0 x.zA (k+i);omega⟩,?_⟩;rw[←yM];exact wP (h.okAt (by omega))
      have h8:=h4 (b::B') _ h3 h7;rw[show x.zA.length-(k+i+1)=x.zA.length-k-(i+1)from by omega,←zAe hi,←h1,yE hj,yW]at h8;refine⟨_,rfl,mul (suf x k) B (xJ (x.zA.length-k) i),mul (suf x k) u (xJ (x.zA.length-k) i),?_⟩;have hor:(lvl x (k+i)).o=at0 x.zA (k+i):=rfl;rw[hor]at h8
      by_cases hge:b+1≥at0 x.zA (k+i)
      ·rw[if_pos hge]at h8
       refine⟨_,_,rfl,xE ok hB hU,xE ok hu hU,?_,h8,?_⟩
       ·rw[←G.assoc hv hu hU,hmu]
       ·left
        rw[yE hj]at h3;have:=h3.1.2;rw[hor]at this;omega
      ·rw[if_neg hge]at h8
       refine⟨_,_,rfl,xE ok hB hU,xE ok hu hU,?_,h8,?_⟩
       ·rw[←G.assoc hv hu hU,hmu]
       ·right;omega) (fun s hs=>by
     obtain⟨B,u,b,B',rfl,hB,hu,hmu,hB',hb⟩:=hs;have hz:ixO (fv k B) ((k+i:Nat):Int)=some b:=by rw[fv,zLj (by rw[wY h hk hB];exact hi),hB',at0,J2,J8 (by rw[yA];omega),yA,Ku];rfl
     have hbr:=(zDM h.os (x.zA.length-k) k B (by omega) hB).2 i hi;have ha:=(zDM h.os (x.zA.length-k) k A (by omega) hA).2 i hi;have e1:at0 B i=b:=by rw[hB',at0,J2,J8 (by rw[yA];omega),yA,Ku];rfl
     have e2:at0 A i=a0:=by rw[hA',at0,J2,J8 (by rw[yA];omega),yA,Ku];rfl
     have hb0:b=0:=by omega
     subst hb0;unfold zPP;simp only
     rw[hz,bs,show((0:Int) != 0)=false from rfl,zL];exact⟨_,rfl,B,u,rfl,hB,hu,hmu,B',by rw[hB',zBA]⟩) ⟨A,w,a0,A',rfl,hA,hw,hm,hA',.inr (by omega)⟩
   obtain⟨r,r1,B,u,rfl,hB,hu,hmu,B',hB'⟩:=inner;rw[r1,bs,zC (by omega) (by omega),bs,cs];exact⟨_,rfl,B,u,rfl,hB,hu,hmu,B',by rw[hB',show k+i+1-k=i+1 from by omega]⟩) (fun s hI=>by
  obtain⟨A,w,rfl,hA,hw,hm,A',hA'⟩:=hI;unfold zSF;simp only
  rw[hvl,xX,zL];refine⟨_,rfl,w,hw,?_,rfl⟩;have hAl:=wY h hk hA;rw[hA',J5,yA]at hAl;rw[hm,hA',Kb (l:=A') (by omega),J9,hsl]) (s:=(fv k v,fv k (zeros (suf x k).length),0))
  ⟨v,_,rfl,hv,wP ok,G.oner hv,v,by rw[Jcm];rfl⟩
 obtain⟨r,r1,w,hw,hm,rfl⟩:=key;rw[r1,bs];exact⟨w,hw,hm,rfl⟩
theorem zC2{a b:Vec}(ha:V (suf x k) a)(hb:V (suf x k) b):∃c,V (suf x k) c∧mul (suf x k) b c=mul (suf x k) a b∧zSH x (fv k a) (fv k b)=some (fv k c):=by
 have ok:=h.okAt hk;have G:=zHr h hk hc;obtain⟨w,hw,hm,h1⟩:=zLn h hk hc hb;have hab:=xE ok ha hb;refine⟨mul (suf x k) w (mul (suf x k) a b),xE ok hw hab,?_,?_⟩
 ·rw[←G.assoc hb hw hab,hm,G.onel hab]
 ·unfold zSH
  rw[h1,bs,zDx h hk hc ha hb,bs,zDx h hk hc hw hab,bs]
end
theorem zMO{a b:List Int}(h:a.length≤1000000):f_Y a b=some (a==b):=
 zOp (t:=fun u v=>some (u==v)) (body:=zXt a b) rfl (fun _=>rfl) (by omega) fun _ _ _ _=>rfl
end Go.Pl

namespace Go.Pl
open Go Go.Ab Go.Wk Go.Pc
theorem zLo{ρ:Type}{body:Int→Option (Int⊕(Unit⊕ρ))}(n i0:Nat)(hn:i0≤n)(P:Nat→Prop)(B:ρ→Prop)
  (h:∀i,i0≤i→i<n→(∀j,i0≤j→j<i→P j)→(body (i:Int)=some (.inl ((i+1:Nat):Int))∧P i)∨(∃r,body (i:Int)=some (.inr (.inr r))∧B r∧ ¬P i))
  (he:body (n:Int)=some (.inr (.inl ()))):
  (zI body (i0:Int)=some (.inl ())∧ ∀j,i0≤j→j<n→P j)∨ ∃r i,i0≤i∧i<n∧zI body (i0:Int)=some (.inr r)∧B r∧ ¬P i:=by
 have key:∀k i,i0≤i→i+k=n→(∀j,i0≤j→j<i→P j)→(zI body (i:Int)=some (.inl ())∧ ∀j,i0≤j→j<n→P j)∨ ∃r q,i0≤q∧q<n∧zI body (i:Int)=some (.inr r)∧B r∧ ¬P q:=by
  intro k
  induction k with
  |zero=>
   intro i hi hk hp;obtain rfl:i=n:=by omega
   exact .inl ⟨by rw[xT,he],hp⟩
  |succ k ih=>
   intro i hi hk hp;rcases h i hi (by omega) hp with⟨h1,h2⟩|⟨r,h1,h2,h3⟩
   ·have:=ih (i+1) (by omega) (by omega) fun j a b=>by
     rcases Jk j i with c|c
     ·exact hp j a c
     ·rw[show j=i from by omega];exact h2
    rw[xT,h1];exact this
   ·exact .inr ⟨r,i,hi,by omega,by rw[xT,h1],h2,h3⟩
 exact key (n-i0) i0 (Jp _) (by omega) fun j a b=>by omega
theorem zHu{σ ρ:Type}{body:σ→Option (σ⊕ρ)}{Q:ρ→Prop}(I:σ→Prop)(m:σ→Nat)
  (h:∀s,I s→(∃s',body s=some (.inl s')∧I s'∧m s'<m s)∨ ∃r,body s=some (.inr r)∧Q r):∀(k:Nat)(s:σ),m s≤k→I s→ ∃r,zI body s=some r∧Q r
 |k,s,hk,hs=>by
  rcases h s hs with⟨s',h1,h2,h3⟩|⟨r,h1,h2⟩
  ·cases k with
   |zero=>omega
   |succ k=>
    obtain⟨r,h4,h5⟩:=zHu I m h k s' (by omega) h2;exact⟨r,by rw[xT,h1];exact h4,h5⟩
  ·exact⟨r,by rw[xT,h1],h2⟩
theorem zW8{k:Nat}{a b:Vec}:(fv k a==fv k b)=true↔a=b:=by rw[beq_iff_eq];exact⟨fun h=>List.append_cancel_left h,fun h=>by rw[h]⟩
theorem zC3{x:SPr}{v:List Int}{i k:Nat}(h:Exp x.zA v i)(hk:k≤i+1)(hn:k≤x.zA.length):v=fv k (v.drop k)∧V (suf x k) (v.drop k):=by
 have h1:=h.1.1;constructor
 ·apply La
  intro j;rw[fv,L4];simp only[zeros,Jh,Kr,Ko];split
  ·rename_i hj
   have h2:=h.2 j (by omega);rw[J3 (by omega)];rw[at0,J2,J3 (by omega)]at h2;simpa using h2
  ·rw[show k+(j-k)=j from by omega]
 ·refine zW7 (x.zA.length-k) k _ (by omega) (by rw[K1];omega) fun j hj=>?_
  have:=h.1.2 (k+j) (by omega);have e:at0 (v.drop k) j=at0 v (k+j):=by simp only[at0,J2,Ko]
  rw[e];exact this
structure LC (x:SPr) (k:Nat):Prop where
 c1:∀j,k+1≤j→j<x.zA.length→pw (mul (suf x (k+1))) (zeros (suf x (k+1)).length) ((lvl x k).cs.getD (j-(k+1)) []) (at0 x.zA j).toNat=sig (suf x (k+1)) (lvl x k) ((x.zU.getD j []).drop (k+1))
 c2:∀i,k+1≤i→i<x.zA.length→ ∀j,i+1≤j→j<x.zA.length→
  mul (suf x (k+1)) ((lvl x k).cs.getD (j-(k+1)) []) ((lvl x k).cs.getD (i-(k+1)) [])=mul (suf x (k+1)) ((lvl x k).cs.getD (i-(k+1)) []) (sig (suf x (k+1)) (lvl x k) (((x.zF.getD i []).getD (j-(i+1)) []).drop (k+1)))
 c3:sig (suf x (k+1)) (lvl x k) (lvl x k).w=(lvl x k).w
 c4:∀j,k+1≤j→j<x.zA.length→mul (suf x (k+1)) (lvl x k).w (iter (lvl x k).o.toNat (sig (suf x (k+1)) (lvl x k)) (xJ (x.zA.length-(k+1)) (j-(k+1))))=mul (suf x (k+1)) (xJ (x.zA.length-(k+1)) (j-(k+1))) (lvl x k).w
section
variable {x:SPr} (h:Pres x) {k:Nat} (hk:k<x.zA.length) (hc:wQ (suf x (k+1)))
 include h hk
theorem kI{j:Nat}(h1:k+1≤j)(h2:j<x.zA.length):ixO x.zF (k:Int)=some (x.zF.getD k [])∧ixO (x.zF.getD k []) ((j:Int)-(k:Int)-1)=some (fv (k+1) ((lvl x k).cs.getD (j-(k+1)) []))∧V (suf x (k+1)) ((lvl x k).cs.getD (j-(k+1)) []):=by obtain⟨c,c1,c2,c3,c4⟩:=zEz h hk (i:=j-(k+1)) (by omega);rw[c4];refine⟨c1,?_,c3⟩;rw[show(j:Int)-(k:Int)-1=((j-(k+1):Nat):Int)from by omega];exact c2
theorem zRx{j:Nat}(h1:k+1≤j)(h2:j<x.zA.length):ixO x.zU (j:Int)=some (fv (k+1) ((x.zU.getD j []).drop (k+1)))∧V (suf x (k+1)) ((x.zU.getD j []).drop (k+1)):=by have t1:=(h.tl j h2).1;have hl:=h.pl;obtain⟨e1,e2⟩:=zC3 (k:=k+1) t1 (by omega) (by omega);exact⟨by rw[xD [] (by omega),←e1],e2⟩
theorem zRy{i j:Nat}(h1:k+1≤i)(h2:i+1≤j)(h3:j<x.zA.length):ixO x.zF (i:Int)=some (x.zF.getD i [])∧ixO (x.zF.getD i []) ((j:Int)-(i:Int)-1)=some (fv (k+1) (((x.zF.getD i []).getD (j-(i+1)) []).drop (k+1)))∧V (suf x (k+1)) (((x.zF.getD i []).getD (j-(i+1)) []).drop (k+1)):=by obtain⟨_,t2,t3⟩:=h.tl i (by omega);have hl:=h.cl;obtain⟨e1,e2⟩:=zC3 (k:=k+1) (t3 (j-(i+1)) (by omega)) (by omega) (by omega);refine⟨xD [] (by omega),?_,e2⟩;rw[show(j:Int)-(i:Int)-1=((j-(i+1):Nat):Int)from by omega,xD [] (by omega),←e1]
theorem zW9:ixO x.zU (k:Int)=some (fv (k+1) (lvl x k).w)∧V (suf x (k+1)) (lvl x k).w:=by have t1:=(h.tl k hk).1;have hl:=h.pl;obtain⟨e1,e2⟩:=zC3 (k:=k+1) t1 (by omega) (by omega);exact⟨by rw[xD [] (by omega)];exact congrArg some e1,e2⟩
theorem zVx{v:Vec}(hv:V (suf x (k+1)) v):V (suf x (k+1)) (sig (suf x (k+1)) (lvl x k) v):=by have ok0:=h.okAt (k:=k) (by omega);rw[yE hk]at ok0;exact zCu ok0 hv
theorem zIM{j:Nat}(h1:k+1≤j)(h2:j<x.zA.length):zLX (x.zA.length:Int) (j:Int)=some (fv (k+1) (xJ (x.zA.length-(k+1)) (j-(k+1)))):=by
 have h6:=h.os.1;unfold zLX;rw[xR (by omega),bs,uF,Kr,if_pos h2,bs,Je]
 congr 1
 rw[fv,zAe (by omega),←Ja];have e1:zeros (k+1)++zeros (j-(k+1))=zeros j:=by simp only[zeros,Jv];congr 1;omega
 have e2:J1 x.zA.length (0:Int)=zeros j++0::zeros (x.zA.length-(j+1)):=by simp only[zeros];rw[←Jo,Jv];congr 1;omega
 rw[e1,e2,zDw,show x.zA.length-(k+1)-(j-(k+1)+1)=x.zA.length-(j+1)from by omega]
theorem zPr{j:Nat}(h1:k+1≤j)(h2:j<x.zA.length):zXm (x.zA.length:Int) (j:Int)=some (fv (k+1) (xJ (x.zA.length-(k+1)) (j-(k+1)))):=zIM h hk h1 h2
 include hc
theorem zAf{v:Vec}(hv:V (suf x (k+1)) v):f_C x k (fv (k+1) v)=some (fv (k+1) (sig (suf x (k+1)) (lvl x k) v)):=by
 have h6:=h.os.1;have ok:=h.okAt (k:=k+1) (by omega);have ok0:=h.okAt (k:=k) (by omega);rw[yE hk]at ok0;obtain⟨hvl,hvr⟩:=zDM h.os (x.zA.length-(k+1)) (k+1) v (by omega) hv;have hcl:(lvl x k).cs.length=x.zA.length-(k+1):=by rw[ok0.2.2.1,yM]
 have t2:=(h.tl k hk).2.1;have hcl2:=h.cl;have hA:∀i,V (suf x (k+1)) (img (mul (suf x (k+1))) ((lvl x k).cs.take i) (v.take i) (zeros (suf x (k+1)).length)):=fun i=>
  jA (xE ok) _ _ (fun c hc=>ok0.2.2.2.1 c (Gz hc)) (wP ok)
 unfold f_C;rw[zC1 h (by omega) hv,xR (by omega),bs,xD [] (by omega),bs,zOu h (k:=k+1) (by omega)];have:=zZ (body:=zSE x k (fv (k+1) v) (x.zF.getD k [])) (r:=fv (k+1) (sig (suf x (k+1)) (lvl x k) v))
  (fun i=>(fv (k+1) (img (mul (suf x (k+1))) ((lvl x k).cs.take i) (v.take i) (zeros (suf x (k+1)).length)),(i:Int))) (x.zF.getD k []).length (fun i hi=>by
  have hr:=hvr i (by omega);obtain⟨c,c1,c2,c3,c4⟩:=zEz h hk (i:=i) (by omega);unfold zSE;simp only
  rw[xK hi,zN,c2,bs,zC (by omega) (by omega),bs,zC (by omega) (by omega),bs,show(k:Int)+1+(i:Int)=((k+1+i:Nat):Int)from by omega,fv,zLj (by omega),bs];rw[uS (S:=V (suf x (k+1))) (body:=zSD x (zeros (k+1)++c) (at0 v i)) (fun u=>fv (k+1) u) (fun u=>mul (suf x (k+1)) u c) (at0 v i) hr.1 (fun u hu=>xE ok hu c3) (fun u q hu hq=>by
   unfold zSD;simp only
   rw[decide_eq_true hq,zN,zHt h (by omega) hc hu c3,bs,zC (by omega) (by omega),bs,cs]) (fun u hu=>by
   unfold zSD;simp only
   rw[decide_eq_false (by omega),zL]) (hA i),bs,zC (by omega) (by omega),bs,cs]
  rw[zBk _ _ _ _ (by omega) (by omega),c4]) (by
  unfold zSE;simp only
  rw[xX,zL,Jr (by omega),Jr (by omega)];rfl)
 simp only[K6,img]at this;rw[show((0:Nat):Int)=0 from rfl]at this;rw[this,bs]
theorem zC4{a b:Vec}(ha:V (suf x (k+1)) a):IsB (f_Y (fv (k+1) a) (fv (k+1) b)) (a=b):=by have _:=hc;have h6:=h.os.1;rw[zMO (by rw[zC1 h (by omega) ha];omega)];exact IsB.of_bool zW8
theorem zLp{c:Vec}(hcv:V (suf x (k+1)) c){e:Int}(e0:0≤e)(e1:e≤1000):zU1 x ((k+1:Nat):Int) (fv (k+1) c) e=some (fv (k+1) (pw (mul (suf x (k+1))) (zeros (suf x (k+1)).length) c e.toNat)):=by
 have h6:=h.os.1;have ok:=h.okAt (k:=k+1) (by omega);have G:=zHr h (k:=k+1) (by omega) hc;have hA:=zOt h (k:=k+1) (by omega);have pwV:∀a,V (suf x (k+1)) (pw (mul (suf x (k+1))) (zeros (suf x (k+1)).length) c a):=fun a=>tL G.toMon hcv a
 unfold zU1;rw[xR (by omega),bs,zOu h (k:=k+1) (by omega)];obtain⟨r,r1,r2⟩:=zHu (body:=zOV x ((k+1:Nat):Int)) (Q:=fun r=>r=fv (k+1) (pw (mul (suf x (k+1))) (zeros (suf x (k+1)).length) c e.toNat))
  (fun s=> ∃(m a q:Nat),s=((m:Int),fv (k+1) (pw (mul (suf x (k+1))) (zeros (suf x (k+1)).length) c a),fv (k+1) (pw (mul (suf x (k+1))) (zeros (suf x (k+1)).length) c q))∧a+q*m=e.toNat∧m≤1000) (fun s=>s.1.toNat) (fun s ⟨m,a,q,hs,he,hm⟩=>by
   subst hs;unfold zOV;simp only
   by_cases hm0:m=0
   ·right
    subst hm0;rw[show decide (((0:Nat):Int)> 0)=false from rfl,zL];refine⟨_,rfl,?_⟩;rw[←he,Nat.mul_zero];rfl
   ·left
    have hr:uJ (m:Int) 2=some ((m%2:Nat):Int):=by unfold uJ;rw[if_neg (by decide),Kx (by omega)];rfl
    have hq:uZ (m:Int) 2=some ((m/2:Nat):Int):=by unfold uZ;rw[if_neg (by decide),Int.tdiv_eq_ediv_of_nonneg (by omega)];rw[zC (by omega) (by omega)];rfl
    have hdm:=H8 m 2;have hqq:mul (suf x (k+1)) (pw (mul (suf x (k+1))) (zeros (suf x (k+1)).length) c q) (pw (mul (suf x (k+1))) (zeros (suf x (k+1)).length) c q)=pw (mul (suf x (k+1))) (zeros (suf x (k+1)).length) c (q+q):=(zHk G.toMon hcv q q).symm;rw[decide_eq_true (by omega),zN,hr,bs];rcases Nat.mod_two_eq_zero_or_one m with h2|h2
    ·rw[h2,show((((0:Nat):Int))==1)=false from rfl,zL,hA _ _ (pwV q) (pwV q),bs,hq,bs,hqq]
     refine⟨_,rfl,⟨m/2,a,q+q,rfl,?_,by omega⟩,by simp only;omega⟩;rw[←he];have:m=m/2+m/2:=by omega
     have e3:(q+q)*(m/2)=q*m:=by rw[Uk,←Jay,←this]
     omega
    ·rw[h2,show((((1:Nat):Int))==1)=true from rfl,zN,hA _ _ (pwV a) (pwV q),bs,hA _ _ (pwV q) (pwV q),bs,hq,bs,hqq,←zHk G.toMon hcv a q]
     refine⟨_,rfl,⟨m/2,a+q,q+q,rfl,?_,by omega⟩,by simp only;omega⟩;rw[←he];have:m=m/2+m/2+1:=by omega
     have e3:(q+q)*(m/2)+q=q*m:=by
      have e4:q*m=q*(m/2+m/2+1):=by rw[←this]
      rw[e4,Jay,Jay,Qp,Uk]
     omega) 1000000 (e,fv (k+1) (zeros (suf x (k+1)).length),fv (k+1) c) (by simp only;omega) ⟨e.toNat,0,1,by rw[zRq G.toMon hcv,show((e.toNat:Nat):Int)=e from by omega];rfl,by omega,by omega⟩
 rw[r1,bs,r2]
end
end Go.Pl

namespace Go.Pl
open Go Go.Ab Go.Wk Go.Pc
def zYS(o:Option xI)(P:Prop):Prop:=(o=some (xI.mk 0 0 0 0)∧P)∨ ∃r,o=some r∧r.Kind≠0∧ ¬P
theorem kb{a b c d:Int}(h:a≠0):(xI.mk a b c d).Kind≠0:=h
abbrev KB(r:xI):Prop:=r.Kind≠0
theorem zBl{o:Option Bool}{P:Prop}{bad:xI}{i:Nat}{g:Option (Int⊕(Unit⊕xI))}(h:IsB o P)(hi:i<9223372036854775807)(hbad:bad.Kind≠0)
  (hg:g=o.bind fun r=>cond (!r) (some (.inr (.inr bad))) ((rng ((i:Int)+1)).bind fun v=>some (.inl v))):(g=some (.inl ((i+1:Nat):Int))∧P)∨(∃r,g=some (.inr (.inr r))∧KB r∧ ¬P):=by
 rcases zB9 h hi hg with h|⟨h1,h2⟩
 ·exact .inl h
 ·exact .inr ⟨bad,h1,hbad,h2⟩
section
variable {x:SPr} (h:Pres x) {k:Nat} (hk:k<x.zA.length) (hc:wQ (suf x (k+1)))
 include h hk hc
theorem zMP:zYS (f_n x k) (LC x k):=by
 have h6:=h.os.1;have ok:=h.okAt (k:=k+1) (by omega);have G:=zHr h (k:=k+1) (by omega) hc;obtain⟨w1,w2⟩:=zW9 h hk;have hsV:∀v,V (suf x (k+1)) v→V (suf x (k+1)) (sig (suf x (k+1)) (lvl x k) v):=fun v hv=>zVx h hk hv
 unfold f_n;rw[zC (by omega) (by omega),bs,cs];rcases zLo (body:=zSI x k) x.zA.length (k+1) (by omega) (fun j=>pw (mul (suf x (k+1))) (zeros (suf x (k+1)).length) ((lvl x k).cs.getD (j-(k+1)) []) (at0 x.zA j).toNat=sig (suf x (k+1)) (lvl x k) ((x.zU.getD j []).drop (k+1))) KB (fun j h1 h2 _=>by
   obtain⟨c1,c2,c3⟩:=kI h hk h1 h2;obtain⟨p1,p2⟩:=zRx h hk h1 h2;have hpr:=(h.os.2 j h2).pos;refine zBl (zC4 h hk hc (tL G.toMon c3 (at0 x.zA j).toNat)) (by omega) (bad:=xI.mk 1 k j 0) (kb (by decide)) ?_;unfold zSI;rw[xK h2,zN,c1,bs,zC (by omega) (by omega),bs,zC (by omega) (by omega),bs,c2,bs,yT h2,bs,zMN h (by omega) hc c3 (by omega) (by omega),bs,p1,bs,zAf h hk hc p2,bs]) (by
   unfold zSI;rw[xX,zL])with⟨g1,g2⟩|⟨r,j,j1,j2,g1,g2,g3⟩
 rotate_left
 ·rw[g1,bs]
  exact .inr ⟨r,rfl,g2,fun q=>g3 (q.c1 j j1 j2)⟩
 rw[g1,bs];simp only
 rw[bs];rcases zLo (body:=zSK x k) x.zA.length (k+1) (by omega) (fun i=> ∀j,i+1≤j→j<x.zA.length→
   mul (suf x (k+1)) ((lvl x k).cs.getD (j-(k+1)) []) ((lvl x k).cs.getD (i-(k+1)) [])=mul (suf x (k+1)) ((lvl x k).cs.getD (i-(k+1)) []) (sig (suf x (k+1)) (lvl x k) (((x.zF.getD i []).getD (j-(i+1)) []).drop (k+1)))) KB (fun i h1 h2 _=>by
   obtain⟨c1,c2,c3⟩:=kI h hk h1 h2;unfold zSK;rw[xK h2,zN,zC (by omega) (by omega),bs,cs];rcases zLo (body:=zSJ x k i) x.zA.length (i+1) (by omega) (fun j=>mul (suf x (k+1)) ((lvl x k).cs.getD (j-(k+1)) []) ((lvl x k).cs.getD (i-(k+1)) [])=mul (suf x (k+1)) ((lvl x k).cs.getD (i-(k+1)) []) (sig (suf x (k+1)) (lvl x k) (((x.zF.getD i []).getD (j-(i+1)) []).drop (k+1)))) KB (fun j h3 h4 _=>by
     obtain⟨d1,d2,d3⟩:=kI h hk (j:=j) (by omega) h4;obtain⟨e1,e2,e3⟩:=zRy h hk h1 h3 h4;obtain⟨q,q1,q2,q3⟩:=zC2 h (by omega) hc d3 c3;refine zBl ((zC4 h hk hc (b:=sig (suf x (k+1)) (lvl x k) (((x.zF.getD i []).getD (j-(i+1)) []).drop (k+1))) q1).iff (Q:=mul (suf x (k+1)) ((lvl x k).cs.getD (j-(k+1)) []) ((lvl x k).cs.getD (i-(k+1)) [])=mul (suf x (k+1)) ((lvl x k).cs.getD (i-(k+1)) []) (sig (suf x (k+1)) (lvl x k) (((x.zF.getD i []).getD (j-(i+1)) []).drop (k+1)))) ?_) (by omega) (bad:=xI.mk 2 k i j) (kb (by decide)) ?_
     ·exact⟨fun e=>by rw[←q2,e],fun e=>G.cancel_l c3 q1 (hsV _ e3) (by rw[q2,e])⟩
     ·unfold zSJ
      rw[xK h4,zN,d1,bs,zC (by omega) (by omega),bs,zC (by omega) (by omega),bs,d2,bs,bs,zC (by omega) (by omega),bs,zC (by omega) (by omega),bs,c2,bs,q3,bs,e1,bs,zC (by omega) (by omega),bs,zC (by omega) (by omega),bs,e2,bs,zAf h hk hc e3,bs]) (by
     unfold zSJ;rw[xX,zL])with⟨g1,g2⟩|⟨r,j,j1,j2,g1,g2,g3⟩
   ·left
    rw[g1,bs];exact⟨rfl,g2⟩
   ·right
    rw[g1,bs];exact⟨r,rfl,g2,fun q=>g3 (q j j1 j2)⟩) (by
   unfold zSK;rw[xX,zL])with⟨k1,k2⟩|⟨r,j,j1,j2,k1,k2,k3⟩
 rotate_left
 ·rw[k1,bs]
  exact .inr ⟨r,rfl,k2,fun q=>k3 (q.c2 j j1 j2)⟩
 rw[k1,bs];simp only
 rw[w1,bs,zAf h hk hc w2,bs];rcases zC4 h hk hc (b:=(lvl x k).w) (hsV _ w2)with⟨m1,m2⟩|⟨m1,m2⟩
 rotate_left
 ·rw[m1,bs,Kw,zN]
  exact .inr ⟨_,rfl,kb (by decide),fun q=>m2 q.c3⟩
 rw[m1,bs,Ky,zL,bs];rcases zLo (body:=zSM x k (fv (k+1) (lvl x k).w)) x.zA.length (k+1) (by omega) (fun j=>mul (suf x (k+1)) (lvl x k).w (iter (lvl x k).o.toNat (sig (suf x (k+1)) (lvl x k)) (xJ (x.zA.length-(k+1)) (j-(k+1))))=mul (suf x (k+1)) (xJ (x.zA.length-(k+1)) (j-(k+1))) (lvl x k).w) KB (fun j h1 h2 _=>by
   have hU:=zMM h (k:=k+1) (by omega) hc (i:=j-(k+1)) (by omega);have hpr:=(h.os.2 k hk).pos;obtain⟨q,q1,q2,q3⟩:=zC2 h (k:=k+1) (by omega) hc hU w2;have hit:V (suf x (k+1)) (iter (lvl x k).o.toNat (sig (suf x (k+1)) (lvl x k)) (xJ (x.zA.length-(k+1)) (j-(k+1)))):=vK hsV _ hU;refine zBl ((zC4 h hk hc (b:=q) hit).iff ⟨fun e=>by rw[e,q2],fun e=>G.cancel_l w2 hit q1 (by rw[e,q2])⟩) (by omega) (bad:=xI.mk 4 k j 0) (kb (by decide)) ?_;unfold zSM;rw[xK h2,zN,zIM h hk h1 h2,bs,yT hk,bs];rw[uS (S:=V (suf x (k+1))) (body:=zSL x k (at0 x.zA k)) (fun u=>fv (k+1) u) (sig (suf x (k+1)) (lvl x k)) (at0 x.zA k) (by omega) hsV (fun u i hu hi=>by
    unfold zSL;simp only
    rw[decide_eq_true hi,zN,zAf h hk hc hu,bs,zC (by omega) (by omega),bs,cs]) (fun u hu=>by
    unfold zSL;simp only
    rw[decide_eq_false (by omega),zL]) hU,bs,bs,q3,bs]
   rfl) (by
   unfold zSM;rw[xX,zL])with⟨n1,n2⟩|⟨r,j,j1,j2,n1,n2,n3⟩
 ·rw[n1,bs]
  exact .inl ⟨rfl,⟨g2,k2,m2,n2⟩⟩
 ·rw[n1,bs]
  exact .inr ⟨r,rfl,n2,fun q=>n3 (q.c4 j j1 j2)⟩
theorem zMQ:zYS (f_o x k) (LC x k):=by
 have h6:=h.os.1;have ok:=h.okAt (k:=k+1) (by omega);have G:=zHr h (k:=k+1) (by omega) hc;obtain⟨w1,w2⟩:=zW9 h hk;have hA:=zOt h (k:=k+1) (by omega);have hI:=zMK h hk;have hsV:∀v,V (suf x (k+1)) v→V (suf x (k+1)) (sig (suf x (k+1)) (lvl x k) v):=fun v hv=>zVx h hk hv
 have eqB:∀{a b:Vec},V (suf x (k+1)) a→IsB (zPM (fv (k+1) a) (fv (k+1) b)) (a=b):=fun ha=>zC4 h hk hc ha
 unfold f_o;rw[zC (by omega) (by omega),bs,cs];rcases zLo (body:=zSz x k) x.zA.length (k+1) (by omega) (fun j=>pw (mul (suf x (k+1))) (zeros (suf x (k+1)).length) ((lvl x k).cs.getD (j-(k+1)) []) (at0 x.zA j).toNat=sig (suf x (k+1)) (lvl x k) ((x.zU.getD j []).drop (k+1))) KB (fun j h1 h2 _=>by
   obtain⟨c1,c2,c3⟩:=kI h hk h1 h2;obtain⟨p1,p2⟩:=zRx h hk h1 h2;have hpr:=(h.os.2 j h2).pos;refine zBl (eqB (tL G.toMon c3 (at0 x.zA j).toNat)) (by omega) (bad:=xI.mk 1 k j 0) (kb (by decide)) ?_;unfold zSz;rw[xK h2,zN,zC (by omega) (by omega),bs,cs,c1,bs,zC (by omega) (by omega),bs,zC (by omega) (by omega),bs,c2,bs,yT h2,bs,zLp h hk hc c3 (by omega) (by omega),bs,p1,bs,hI _ p2,bs]) (by
   unfold zSz;rw[xX,zL])with⟨g1,g2⟩|⟨r,j,j1,j2,g1,g2,g3⟩
 rotate_left
 ·rw[g1,bs]
  exact .inr ⟨r,rfl,g2,fun q=>g3 (q.c1 j j1 j2)⟩
 rw[g1,bs];simp only
 rw[bs];rcases zLo (body:=zS1 x k) x.zA.length (k+1) (by omega) (fun i=> ∀j,i+1≤j→j<x.zA.length→
   mul (suf x (k+1)) ((lvl x k).cs.getD (j-(k+1)) []) ((lvl x k).cs.getD (i-(k+1)) [])=mul (suf x (k+1)) ((lvl x k).cs.getD (i-(k+1)) []) (sig (suf x (k+1)) (lvl x k) (((x.zF.getD i []).getD (j-(i+1)) []).drop (k+1)))) KB (fun i h1 h2 _=>by
   obtain⟨c1,c2,c3⟩:=kI h hk h1 h2;unfold zS1;rw[xK h2,zN,zC (by omega) (by omega),bs,cs];rcases zLo (body:=zS0 x k i) x.zA.length (i+1) (by omega) (fun j=>mul (suf x (k+1)) ((lvl x k).cs.getD (j-(k+1)) []) ((lvl x k).cs.getD (i-(k+1)) [])=mul (suf x (k+1)) ((lvl x k).cs.getD (i-(k+1)) []) (sig (suf x (k+1)) (lvl x k) (((x.zF.getD i []).getD (j-(i+1)) []).drop (k+1)))) KB (fun j h3 h4 _=>by
     obtain⟨d1,d2,d3⟩:=kI h hk (j:=j) (by omega) h4;obtain⟨e1,e2,e3⟩:=zRy h hk h1 h3 h4;refine zBl (eqB (xE ok d3 c3)) (by omega) (bad:=xI.mk 2 k i j) (kb (by decide)) ?_;unfold zS0;rw[xK h4,zN,d1,bs,zC (by omega) (by omega),bs,zC (by omega) (by omega),bs,c2,bs,bs,zC (by omega) (by omega),bs,zC (by omega) (by omega),bs,d2,bs,e1,bs,zC (by omega) (by omega),bs,zC (by omega) (by omega),bs,e2,bs,hI _ e3,bs,zC (by omega) (by omega),bs,cs,hA _ _ d3 c3,bs,bs,hA _ _ c3 (hsV _ e3),bs]) (by
     unfold zS0;rw[xX,zL])with⟨g1,g2⟩|⟨r,j,j1,j2,g1,g2,g3⟩
   ·left
    rw[g1,bs];exact⟨rfl,g2⟩
   ·right
    rw[g1,bs];exact⟨r,rfl,g2,fun q=>g3 (q j j1 j2)⟩) (by
   unfold zS1;rw[xX,zL])with⟨k1,k2⟩|⟨r,j,j1,j2,k1,k2,k3⟩
 rotate_left
 ·rw[k1,bs]
  exact .inr ⟨r,rfl,k2,fun q=>k3 (q.c2 j j1 j2)⟩
 rw[k1,bs];simp only
 rw[w1,bs,hI _ w2,bs];rcases eqB (b:=(lvl x k).w) (hsV _ w2)with⟨m1,m2⟩|⟨m1,m2⟩
 rotate_left
 ·rw[m1,bs,Kw,zN]
  exact .inr ⟨_,rfl,kb (by decide),fun q=>m2 q.c3⟩
 rw[m1,bs,Ky,zL,bs];rcases zLo (body:=zS3 x k (fv (k+1) (lvl x k).w)) x.zA.length (k+1) (by omega) (fun j=>mul (suf x (k+1)) (lvl x k).w (iter (lvl x k).o.toNat (sig (suf x (k+1)) (lvl x k)) (xJ (x.zA.length-(k+1)) (j-(k+1))))=mul (suf x (k+1)) (xJ (x.zA.length-(k+1)) (j-(k+1))) (lvl x k).w) KB (fun j h1 h2 _=>by
   have hU:=zMM h (k:=k+1) (by omega) hc (i:=j-(k+1)) (by omega);have hpr:=(h.os.2 k hk).pos;have hit:V (suf x (k+1)) (iter (lvl x k).o.toNat (sig (suf x (k+1)) (lvl x k)) (xJ (x.zA.length-(k+1)) (j-(k+1)))):=vK hsV _ hU;refine zBl (eqB (xE ok w2 hit)) (by omega) (bad:=xI.mk 4 k j 0) (kb (by decide)) ?_;unfold zS3;rw[xK h2,zN,zPr h hk h1 h2,bs];rw[uS (S:=V (suf x (k+1))) (body:=zS2 x k) (fun u=>fv (k+1) u) (sig (suf x (k+1)) (lvl x k)) (at0 x.zA k) (by omega) hsV (fun u i hu hi=>by
    unfold zS2;simp only
    rw[yT hk,bs,decide_eq_true hi,zN,hI _ hu,bs,zC (by omega) (by omega),bs,cs]) (fun u hu=>by
    unfold zS2;simp only
    rw[yT hk,bs,decide_eq_false (by omega),zL]) hU,bs,zC (by omega) (by omega),bs,cs]
   have ho:(lvl x k).o=at0 x.zA k:=rfl;rw[←ho,hA _ _ w2 hit,bs,bs,hA _ _ hU w2,bs]) (by
   unfold zS3;rw[xX,zL])with⟨n1,n2⟩|⟨r,j,j1,j2,n1,n2,n3⟩
 ·rw[n1,bs]
  exact .inl ⟨rfl,⟨g2,k2,m2,n2⟩⟩
 ·rw[n1,bs]
  exact .inr ⟨r,rfl,n2,fun q=>n3 (q.c4 j j1 j2)⟩
end
end Go.Pl

namespace Go.Pl
open Go Go.Ab Go.Wk Go.Pc
theorem zFw{m:Vec→Vec→Vec}:∀(i:Nat)(cs:List Vec)(w acc:Vec),i≤cs.length→img m cs (zeros i++w) acc=img m (cs.drop i) w acc
 |0,cs,w,acc,_=>rfl
 |i+1,[],w,acc,h=>by simp at h
 |i+1,c::cs,w,acc,h=>by show img m (c::cs) (0::(zeros i++w)) acc=_;simp only[img,Hs,iter,List.drop_succ_cons];exact zFw i cs w acc (by simpa using h)
theorem zHv{x:SPr}{v:List Int}{j k:Nat}(h:Exp x.zA v j)(hj:j<x.zA.length)(hk:k≤j+1):v.drop k=zeros (j+1-k)++v.drop (j+1):=by
 have:=zAj h hj;have h2:v.drop k=(zeros (j+1)++v.drop (j+1)).drop k:=by rw[←this]
 rw[h2,Jbs,yA,show k-(j+1)=0 from by omega,G4]
 congr 1
 simp only[zeros,H6]
section
variable {x:SPr} (h:zFT x) {k:Nat} (hk:k<x.zA.length)
 include h hk
theorem zAk:(lvl x k).cs.length=x.zA.length-(k+1):=by have ok0:=h.okAt (k:=k) (by omega);rw[yE hk]at ok0;rw[ok0.2.2.1,yM]
theorem zUa{j:Nat}(h1:k+1≤j)(h2:j<x.zA.length):sig (suf x (k+1)) (lvl x k) ((x.zU.getD j []).drop (k+1))=img (mul (suf x (k+1))) ((lvl x k).cs.drop (j-k)) (lvl x j).w (zeros (suf x (k+1)).length):=by have t1:=(h.tl j h2).1;have hcl:=zAk h hk;rw[zHv t1 h2 (by omega),sig,zFw _ _ _ _ (by omega),show j+1-(k+1)=j-k from by omega];rfl
theorem zOv:∀(d i:Nat),k+1+i+d=x.zA.length→(Rel (mul (suf x (k+1))) (zeros (suf x (k+1)).length) (suf x (k+1+i)) ((lvl x k).cs.drop i)↔
  (∀j,k+1+i≤j→j<x.zA.length→pw (mul (suf x (k+1))) (zeros (suf x (k+1)).length) ((lvl x k).cs.getD (j-(k+1)) []) (at0 x.zA j).toNat=sig (suf x (k+1)) (lvl x k) ((x.zU.getD j []).drop (k+1)))∧
  (∀a,k+1+i≤a→a<x.zA.length→ ∀j,a+1≤j→j<x.zA.length→
   mul (suf x (k+1)) ((lvl x k).cs.getD (j-(k+1)) []) ((lvl x k).cs.getD (a-(k+1)) [])=mul (suf x (k+1)) ((lvl x k).cs.getD (a-(k+1)) []) (sig (suf x (k+1)) (lvl x k) (((x.zF.getD a []).getD (j-(a+1)) []).drop (k+1)))))
 |0,i,hi=>by have hcl:=zAk h hk;rw[vP (x:=x) (k:=k+1+i) (by omega),Jb5 (show(lvl x k).cs.length≤i by omega)];simp only[Rel,true_iff];exact⟨fun j h1 h2=>by omega,fun a h1 h2=>by omega⟩
 |d+1,i,hi=>by
  have hcl:=zAk h hk;have ih:=zOv d (i+1) (by omega);rw[show k+1+(i+1)=k+1+i+1 from by omega]at ih;have hj:k+1+i<x.zA.length:=by omega
  have hg:(lvl x k).cs.drop i=(lvl x k).cs.getD i []::(lvl x k).cs.drop (i+1):=by rw[G8 (by omega),J2,J3 (by omega)];rfl
  rw[yE hj,hg];simp only[Rel];rw[ih];have e1:=zUa h hk (j:=k+1+i) (by omega) hj;rw[show k+1+i-k=i+1 from by omega]at e1;have ho:(lvl x (k+1+i)).o=at0 x.zA (k+1+i):=rfl;rw[ho,←e1];have e2:∀j,k+1+i+1≤j→j<x.zA.length→ ∀dd,(lvl x (k+1+i)).cs[j-(k+1+i+1)]? =some dd→img (mul (suf x (k+1))) ((lvl x k).cs.drop (i+1)) dd (zeros (suf x (k+1)).length)=sig (suf x (k+1)) (lvl x k) (((x.zF.getD (k+1+i) []).getD (j-(k+1+i+1)) []).drop (k+1)):=fun j h1 h2 dd hdd=>by
   obtain⟨_,t2,t3⟩:=h.tl (k+1+i) hj;have t:=t3 (j-(k+1+i+1)) (by omega);rw[zHv t hj (by omega),sig,zFw _ _ _ _ (by omega),show k+1+i+1-(k+1)=i+1 from by omega]
   congr 1
   simp only[lvl,K0,Lf]at hdd;obtain⟨u,hu,rfl⟩:=hdd;rw[J2 (i:=j-(k+1+i+1)),hu];rfl
  have e3:∀j,k+1+i+1≤j→j<x.zA.length→((lvl x k).cs.drop (i+1))[j-(k+1+i+1)]? =some ((lvl x k).cs.getD (j-(k+1)) [])∧ ∃dd,(lvl x (k+1+i)).cs[j-(k+1+i+1)]? =some dd:=fun j h1 h2=>by
   have hcl2:=zAk h hj;refine⟨?_,?_⟩
   ·rw[Ko,show i+1+(j-(k+1+i+1))=j-(k+1)from by omega,J2,J3 (by omega)];rfl
   ·exact⟨_,J3 (by omega)⟩
  constructor
  ·rintro⟨a1,a2,a3,a4⟩
   refine⟨fun j h1 h2=>?_,fun a h1 h2 j h3 h4=>?_⟩
   ·rcases Jk (k+1+i) j with hlt|hge
    ·exact a3 j (by omega) h2
    ·obtain rfl:j=k+1+i:=by omega
     rw[show k+1+i-(k+1)=i from by omega];exact a1
   ·rcases Jk (k+1+i) a with hlt|hge
    ·exact a4 a (by omega) h2 j h3 h4
    ·obtain rfl:a=k+1+i:=by omega
     obtain⟨f1,dd,f2⟩:=e3 j (by omega) h4;have:=a2 _ _ _ f1 f2;rw[e2 j (by omega) h4 dd f2]at this;rw[show k+1+i-(k+1)=i from by omega];exact this
  ·rintro⟨a1,a2⟩
   refine⟨?_,fun kk c dd h1 h2=>?_,fun j h1 h2=>a1 j (by omega) h2,fun a h1 h2=>a2 a (by omega) h2⟩
   ·have:=a1 (k+1+i) (by omega) hj
    rw[show k+1+i-(k+1)=i from by omega]at this;exact this
   ·have hlt:kk<x.zA.length-(k+1+i+1):=by
     have:=(Jb.1 h1).1;rw[K1]at this;omega
    have g:=a2 (k+1+i) (by omega) hj (k+1+i+1+kk) (by omega) (by omega);obtain⟨f1,_⟩:=e3 (k+1+i+1+kk) (by omega) (by omega);rw[show k+1+i+1+kk-(k+1+i+1)=kk from by omega]at f1 g;rw[h1]at f1;have f1:=Lb.inj f1;have g2:=e2 (k+1+i+1+kk) (by omega) (by omega) dd (by rw[show k+1+i+1+kk-(k+1+i+1)=kk from by omega];exact h2);rw[show k+1+i+1+kk-(k+1+i+1)=kk from by omega]at g2;rw[g2,f1];rw[show k+1+i-(k+1)=i from by omega]at g;exact g
theorem zAv:wQ (suf x k)↔wQ (suf x (k+1))∧LC x k:=by
 have hr:=zOv h hk (x.zA.length-(k+1)) 0 (by omega);have hl:=yM x (k+1);rw[G4,U8]at hr;rw[yE hk];simp only[wQ];rw[hr];constructor
 ·rintro⟨a,⟨b1,b2⟩,c,d⟩
  refine⟨a,⟨b1,b2,c,fun j h1 h2=>?_⟩⟩;have:=d (j-(k+1)) (by omega)
  rwa [hl]at this
 ·rintro⟨a,b⟩
  refine⟨a,⟨b.c1,b.c2⟩,b.c3,fun j hj=>?_⟩;have:=b.c4 (k+1+j) (by omega) (by omega);rw[show k+1+j-(k+1)=j from by omega]at this
  rwa [hl]
end
theorem zBm{x:SPr}(h:wQ (suf x 0))(k:Nat):wQ (suf x k):=by
 have:=zE0 h k
 rwa [Jf]at this
def jT(x:SPr):Prop:=Pres x∧wQ (suf x 0)∧zCy x
theorem zAC{x:SPr}(hl:x.zA.length≤1048576):IsB (zSN x) (jT x):=by
 unfold zSN;rcases zDk hl with⟨h1,h2⟩|⟨h1,h2⟩
 ·have h6:=h2.os.1
  rw[h1,bs,zN];unfold zXu;obtain⟨r,r1,r2⟩:=tC (body:=zLY x) (Q:=fun r=> ∃s:Nat,r=(s:Int)∧wQ (suf x s)∧(s=0∨ ¬wQ (suf x (s-1)))) (fun i s=>i≤x.zA.length∧s=((x.zA.length-i:Nat):Int)∧wQ (suf x (x.zA.length-i))) x.zA.length (fun i s hi ⟨_,hs,hcs⟩=>by
    subst hs;have hk:x.zA.length-i-1<x.zA.length:=by omega
    have e9:x.zA.length-(i+1)=x.zA.length-i-1:=by omega
    rw[e9];have e8:i+1≤x.zA.length:=by omega
    rw[show x.zA.length-i=x.zA.length-i-1+1 from by omega]at hcs ⊢
    have hlev:=zMP h2.toPres hk hcs;have hiff:=zAv h2.toPres.w hk
    generalize x.zA.length-i-1=k at*
    unfold zLY;rw[decide_eq_true (by omega),zN,zC (by omega) (by omega),bs,show(((k+1:Nat):Int)-1)=(k:Int)from by omega];rcases hlev with⟨g1,g2⟩|⟨r,g1,g2,g3⟩
    ·left
     rw[g1,bs];simp only[beq_self_eq_true,Bool.and_true];rw[zN,bs];exact⟨_,rfl,e8,rfl,hiff.2 ⟨hcs,g2⟩⟩
    ·right
     rw[g1,bs,show(r.Kind==0)=false from by simpa using g2,Jcq,zL];refine⟨_,rfl,k+1,rfl,hcs,.inr fun q=>g3 (hiff.1 q).2⟩) (fun s ⟨_,hs,hcs⟩=>by
    rw[Ku]at hs hcs;subst hs;unfold zLY;rw[show decide (((0:Nat):Int)> 0)=false from rfl,zL];exact⟨_,rfl,0,rfl,hcs,.inl rfl⟩) (s:=(x.zA.length:Int)) ⟨by omega,by rw[U7],by rw[U7,vP (by omega)];simp only[wQ]⟩
  obtain⟨s,rfl,hcs,hs⟩:=r2;rw[r1,bs,bs];cases s with
  |zero=>exact .inl ⟨rfl,h2.toPres,hcs,h2⟩
  |succ s=>
   refine .inr ⟨?_,fun q=>?_⟩
   ·congr 1
   ·rcases hs with hs|hs
    ·omega
    ·exact hs (zBm q.2.1 _)
 ·rw[h1,bs,zL]
  exact .inr ⟨rfl,fun q=>h2 q.2.2⟩
theorem zHw{x:SPr}(hl:x.zA.length≤1048576):IsB (zS4 x) (jT x):=by
 unfold zS4;rcases zDl hl with⟨h1,h2⟩|⟨h1,h2⟩
 ·have h6:=h2.os.1
  rw[h1,bs,zN];unfold zXo zXn;rw[zC (by omega) (by omega),bs];obtain⟨r,r1,r2⟩:=tC (body:=zLU x) (Q:=fun r=>(r=.inl ()∧wQ (suf x 0))∨ ∃f,r=.inr f∧f.Kind≠0∧ ¬wQ (suf x 0)) (fun i s=>i≤x.zA.length∧s=((x.zA.length-i:Nat):Int)-1∧wQ (suf x (x.zA.length-i))) x.zA.length (fun i s hi ⟨_,hs,hcs⟩=>by
    subst hs;have hk:x.zA.length-i-1<x.zA.length:=by omega
    have e9:x.zA.length-(i+1)=x.zA.length-i-1:=by omega
    rw[e9];have e8:i+1≤x.zA.length:=by omega
    rw[show x.zA.length-i=x.zA.length-i-1+1 from by omega]at hcs ⊢
    have hlev:=zMQ h2.toPres hk hcs;have hiff:=zAv h2.toPres.w hk
    generalize x.zA.length-i-1=k at*
    unfold zLU;rw[show(((k+1:Nat):Int)-1)=(k:Int)from by omega,decide_eq_true (by omega),zN];rcases hlev with⟨g1,g2⟩|⟨r,g1,g2,g3⟩
    ·left
     rw[g1,bs];simp only
     rw[show((0:Int) != 0)=false from rfl,zL,zC (by omega) (by omega),bs];exact⟨_,rfl,e8,rfl,hiff.2 ⟨hcs,g2⟩⟩
    ·right
     rw[g1,bs,show(r.Kind != 0)=true from by simpa using g2,zN];exact⟨_,rfl,.inr ⟨r,rfl,g2,fun q=>g3 (hiff.1 (zBm q _)).2⟩⟩) (fun s ⟨_,hs,hcs⟩=>by
    rw[Ku]at hs hcs;subst hs;unfold zLU;rw[show decide (((0:Nat):Int)-1≥0)=false from rfl,zL];exact⟨_,rfl,.inl ⟨rfl,hcs⟩⟩) (s:=(x.zA.length:Int)-1) ⟨by omega,by rw[U7],by rw[U7,vP (by omega)];simp only[wQ]⟩
  rw[r1,bs];rcases r2 with⟨rfl,q⟩|⟨f,rfl,g1,g2⟩
  ·exact .inl ⟨rfl,h2.toPres,q,h2⟩
  ·simp only
   rw[bs,show(f.Kind==0)=false from by simpa using g1];exact .inr ⟨rfl,fun q=>g2 q.2.1⟩
 ·rw[h1,bs,zL]
  exact .inr ⟨rfl,fun q=>h2 q.2.2⟩
end Go.Pl

namespace Go.Pl
open Go Go.Ab Go.Wk
abbrev Mx:=List (List Int)
def S:Nat→(Nat→Int)→Int
 |0,_=>0
 |n+1,f=>S n f+f n
theorem xG{n:Nat}{f g:Nat→Int}(h:∀i,i<n→f i=g i):S n f=S n g:=by
 induction n with
 |zero=>rfl
 |succ n ih=>simp only[S];rw[ih fun i hi=>h i (by omega),h n (by omega)]
theorem kJ{p:Int}{f g:Nat→Int}:∀{n:Nat},(∀i,i<n→f i%p=g i%p)→S n f%p=S n g%p
 |0,_=>rfl
 |n+1,h=>by simp only[S];rw[Kl,kJ (n:=n) fun i hi=>h i (by omega),h n (by omega),←Kl]
theorem qB:∀n:Nat,S n (fun _=>0)=0
 |0=>rfl
 |n+1=>by simp only[S,qB n];rfl
theorem zC5{f g:Nat→Int}:∀n:Nat,S n (fun i=>f i+g i)=S n f+S n g
 |0=>rfl
 |n+1=>by simp only[S,zC5 n];omega
theorem zLq{f:Nat→Int}(a:Int):∀n:Nat,S n (fun i=>f i*a)=S n f*a
 |0=>by simp[S]
 |n+1=>by simp only[S,zLq a n,Qf]
theorem zC6{f:Nat→Int}(a:Int):∀n:Nat,S n (fun i=>a*f i)=a*S n f
 |0=>by simp[S]
 |n+1=>by simp only[S,zC6 a n,Ja7]
theorem zHx{f:Nat→Nat→Int}(m:Nat):∀n:Nat,S n (fun i=>S m (fun j=>f i j))=S m (fun j=>S n (fun i=>f i j))
 |0=>by simp only[S];exact(qB m).symm
 |n+1=>by simp only[S];rw[zHx m n,zC5]
theorem kW{f:Nat→Int}{k:Nat}:∀{n:Nat},k<n→(∀i,i<n→i≠k→f i=0)→S n f=f k
 |0,h,_=>by omega
 |n+1,h,hz=>by
  simp only[S]
  by_cases hk:k=n
  ·subst hk
   rw[xG (g:=fun _=>0) fun i hi=>hz i (by omega) (by omega),qB];omega
  ·rw[kW (n:=n) (by omega) fun i hi=>hz i (by omega),hz n (by omega) (by omega)];omega
def mkv(D:Nat)(f:Nat→Int):List Int:=(Jl D).map f
theorem yC(D:Nat)(f:Nat→Int):(mkv D f).length=D:=by simp[mkv]
theorem zCU{D:Nat}{f:Nat→Int}{i:Nat}(h:i<D):(mkv D f)[i]? =some (f i):=by simp[mkv,h]
theorem yG{D:Nat}{f:Nat→Int}{i:Nat}(h:i<D):at0 (mkv D f) i=f i:=by rw[at0,J2,zCU h];rfl
theorem zX{D:Nat}{f g:Nat→Int}(h:∀i,i<D→f i=g i):mkv D f=mkv D g:=by unfold mkv;apply Qm;intro i hi;exact h i (by simpa using hi)
theorem jB{D:Nat}{f:Nat→Int}{j:Nat}{a:Int}:(mkv D f).set j a=mkv D (fun i=>if i=j then a else f i):=by
 apply La;intro i;rw[Jc4,yC]
 by_cases hi:i<D
 ·by_cases hij:j=i
  ·subst hij;rw[if_pos rfl,if_pos hi,zCU hi,if_pos rfl]
  ·rw[if_neg hij,zCU hi,zCU hi,if_neg fun h=>hij h.symm]
 ·have h1:∀g:Nat→Int,(mkv D g)[i]? =none:=fun g=>Jz (by rw[yC];omega)
  rw[h1,h1]
  by_cases hij:j=i
  ·subst hij;rw[if_pos rfl,if_neg hi]
  ·rw[if_neg hij]
theorem vR{v:List Int}{D:Nat}(h:v.length=D):v=mkv D (at0 v):=by
 apply La;intro i
 by_cases hi:i<D
 ·rw[zCU hi,at0,J2,J3 (by omega)];rfl
 ·rw[Jz (by omega),Jz (by rw[yC];omega)]
theorem tT(D:Nat):J1 D (0:Int)=mkv D (fun _=>0):=by
 apply La;intro i
 by_cases hi:i<D
 ·rw[zCU hi];simp[hi]
 ·rw[Jz (by simp;omega),Jz (by rw[yC];omega)]
abbrev ent(B:Mx)(l j:Nat):Int:=at0 (B.getD l []) j
def wC(p:Int)(D:Nat)(r:List Int)(B:Mx):List Int:=mkv D fun j=>S D (fun l=>at0 r l*ent B l j)%p
def PM(p:Int)(D:Nat)(A B:Mx):Mx:=A.map fun r=>wC p D r B
def idM(D:Nat):Mx:=(Jl D).map fun i=>mkv D fun j=>if j=i then 1 else 0
def Row(p:Int)(D:Nat)(r:List Int):Prop:=r.length=D∧ ∀i,i<D→0≤at0 r i∧at0 r i≤p-1
def Mat(p:Int)(D:Nat)(A:Mx):Prop:=A.length=D∧ ∀i,i<D→Row p D (A.getD i [])
theorem zBB{p:Int}{D i:Nat}{A B:Mx}(h:i<A.length):(PM p D A B).getD i []=wC p D (A.getD i []) B:=by simp only[PM,J2,K0,J3 h];rfl
theorem tD{p:Int}{D:Nat}{A B:Mx}:(PM p D A B).length=A.length:=by simp[PM]
theorem zHy{p:Int}{D:Nat}{A B:Mx}(hp:0<p)(hA:A.length=D):Mat p D (PM p D A B):=by refine⟨by rw[tD,hA],fun i hi=>?_⟩;rw[zBB (by omega)];refine⟨by rw[wC,yC],fun j hj=>?_⟩;rw[wC,yG hj];have h1:=Le (S D fun l=>at0 (A.getD i []) l*ent B l j) (show p≠0 by omega);have h2:=Kv (S D fun l=>at0 (A.getD i []) l*ent B l j) hp;omega
theorem zMR{p:Int}{D i j:Nat}{A B:Mx}(hA:A.length=D)(hi:i<D)(hj:j<D):ent (PM p D A B) i j=S D (fun l=>ent A i l*ent B l j)%p:=by rw[ent,zBB (by omega),wC,yG hj]
theorem zHz{D:Nat}{A B:Mx}(hA:A.length=D)(hB:B.length=D)(h:∀i,i<D→A.getD i []=B.getD i []):A=B:=by
 apply La;intro i
 by_cases hi:i<D
 ·have:=h i hi
  rw[J2,J2,J3 (by omega),J3 (by omega)]at this;rw[J3 (by omega),J3 (by omega)];exact congrArg some this
 ·rw[Jz (by omega),Jz (by omega)]
theorem zLr{p:Int}{D:Nat}{A B C:Mx}(hA:A.length=D)(hB:B.length=D):PM p D (PM p D A B) C=PM p D A (PM p D B C):=by
 refine zHz (by rw[tD,tD,hA]) (by rw[tD,hA]) fun i hi=>?_
 rw[zBB (A:=PM p D A B) (by rw[tD];omega),zBB (A:=A) (B:=PM p D B C) (by omega)];unfold wC;refine zX fun j hj=>?_
 have e1:S D (fun l=>at0 ((PM p D A B).getD i []) l*ent C l j)%p=S D (fun l=>S D (fun q=>ent A i q*ent B q l)*ent C l j)%p:=kJ fun l hl=>by
  have:=zMR (p:=p) (B:=B) hA hi hl;simp only[ent]at this ⊢
  rw[this,Jx,Kc,←Jx]
 have e2:S D (fun l=>at0 (A.getD i []) l*ent (PM p D B C) l j)%p=S D (fun q=>ent A i q*S D (fun l=>ent B q l*ent C l j))%p:=kJ fun q hq=>by rw[zMR hB hq hj,Jx,Kc,←Jx]
 rw[e1,e2]
 congr 1
 have e3:(fun l=>S D (fun q=>ent A i q*ent B q l)*ent C l j)=fun l=>S D (fun q=>ent A i q*ent B q l*ent C l j):=funext fun l=>(zLq _ _).symm
 have e4:(fun q=>ent A i q*S D (fun l=>ent B q l*ent C l j))=fun q=>S D (fun l=>ent A i q*ent B q l*ent C l j):=funext fun q=>by rw[←zC6];exact xG fun l _=>by rw[Hf]
 rw[e3,e4];exact zHx D D
theorem uC(D:Nat):(idM D).length=D:=by simp[idM]
theorem zCV{D i:Nat}(h:i<D):(idM D).getD i []=mkv D fun j=>if j=i then 1 else 0:=by simp[idM,J2,h]
theorem qM{p:Int}{D:Nat}(hp:2≤p):Mat p D (idM D):=by refine⟨uC D,fun i hi=>?_⟩;rw[zCV hi];refine⟨yC _ _,fun j hj=>?_⟩;rw[yG hj];split<;>omega
theorem sU{p a:Int}(h:0≤a∧a≤p-1):a%p=a:=Ke h.1 (by omega)
theorem zE2{p:Int}{D:Nat}{B:Mx}(hB:Mat p D B):PM p D (idM D) B=B:=by
 refine zHz (by rw[tD,uC]) hB.1 fun i hi=>?_
 rw[zBB (by rw[uC];exact hi),zCV hi,wC];obtain⟨h1,h2⟩:=hB.2 i hi;refine Eq.trans (zX fun j hj=>?_) (vR h1).symm;rw[kW (k:=i) hi fun l hl hne=>by rw[yG hl,if_neg hne,U9],yG hi,if_pos rfl,Ja5];exact sU (h2 j hj)
theorem zC7{p:Int}{D:Nat}{A:Mx}(hA:Mat p D A):PM p D A (idM D)=A:=by
 refine zHz (by rw[tD,hA.1]) hA.1 fun i hi=>?_
 rw[zBB (by rw[hA.1];exact hi),wC];obtain⟨h1,h2⟩:=hA.2 i hi;refine Eq.trans (zX fun j hj=>?_) (vR h1).symm;rw[kW (k:=j) hj fun l hl hne=>by rw[ent,zCV hl,yG hj,if_neg (fun h=>hne h.symm),Ld],ent,zCV hj,yG hj,if_pos rfl,Ho];exact sU (h2 j hj)
theorem zRz{p:Int}{D i j:Nat}{B:Mx}(hB:Mat p D B)(hi:i<D)(hj:j<D):ixO B (i:Int)=some (B.getD i [])∧ixO (B.getD i []) (j:Int)=some (ent B i j)∧(B.getD i []).length=D∧0≤ent B i j∧ent B i j≤p-1:=by obtain⟨h1,h2⟩:=hB.2 i hi;have:=hB.1;exact⟨xD [] (by omega),yT (by omega),h1,h2 j hj⟩
def acc(p:Int)(D i:Nat)(r:List Int)(B:Mx):List Int:=mkv D fun j=>S i (fun l=>at0 r l*ent B l j)%p
def zDm(p:Int)(D i k:Nat)(r:List Int)(B:Mx):List Int:=mkv D fun j=>if j<k then S (i+1) (fun l=>at0 r l*ent B l j)%p else S i (fun l=>at0 r l*ent B l j)%p
theorem zIN{p:Int}{D i:Nat}{r:List Int}{B:Mx}:zDm p D i 0 r B=acc p D i r B:=zX fun j _=>by rw[if_neg (by omega)]
theorem zIO{p:Int}{D i:Nat}{r:List Int}{B:Mx}:zDm p D i D r B=acc p D (i+1) r B:=zX fun j hj=>by rw[if_pos hj]
theorem zLs{p:Int}{D i k:Nat}{r:List Int}{B:Mx}(hk:k<D){a:Int}(ha:a=(at0 (zDm p D i k r B) k+at0 r i*ent B i k)%p):(zDm p D i k r B).set k a=zDm p D i (k+1) r B:=by
 subst ha;simp only[zDm];rw[jB,yG hk,if_neg (by omega)];refine zX fun j hj=>?_
 by_cases hjk:j=k
 ·subst hjk
  rw[if_pos rfl,if_pos (by omega)];simp only[S];rw[Int.emod_add_emod]
 ·rw[if_neg hjk]
  by_cases hlt:j<k
  ·rw[if_pos hlt,if_pos (by omega)]
  ·rw[if_neg hlt,if_neg (by omega)]
theorem zLt{p:Int}{D i k j:Nat}{r:List Int}{B:Mx}(hp:0<p)(hj:j<D):0≤at0 (zDm p D i k r B) j∧at0 (zDm p D i k r B) j≤p-1:=by
 rw[zDm,yG hj];split
 ·have h1:=Le (S (i+1) fun l=>at0 r l*ent B l j) (show p≠0 by omega)
  have h2:=Kv (S (i+1) fun l=>at0 r l*ent B l j) hp;omega
 ·have h1:=Le (S i fun l=>at0 r l*ent B l j) (show p≠0 by omega)
  have h2:=Kv (S i fun l=>at0 r l*ent B l j) hp;omega
theorem zH0{p:Int}{D i k:Nat}{r:List Int}{B:Mx}:(zDm p D i k r B).length=D:=yC _ _
theorem zOw{p:Int}{D i k j:Nat}{r:List Int}{B:Mx}(hj:j<D):ixO (zDm p D i k r B) (j:Int)=some (at0 (zDm p D i k r B) j):=yT (by rw[zH0];exact hj)
theorem zLu{p:Int}{D:Nat}{r:List Int}{B:Mx}:J1 D (0:Int)=acc p D 0 r B:=by rw[tT];exact zX fun j _=>by simp[S]
theorem zIP{a b p:Int}(hp:p≤7)(ha:0≤a∧a≤p-1)(hb:0≤b∧b≤p-1):0≤a*b∧a*b≤36:=by have h1:0≤a*b:=Gx ha.1 hb.1;have h2:a*b≤6*6:=Lt (by omega) (by omega) hb.1 (by omega);omega
section
variable {p:Int}{D:Nat} (hp:Prime p) (hD:D≤8)
 include hp hD
theorem zH1{r:List Int}{B:Mx}(hr:Row p D r)(hB:Mat p D B):f_G p r B (D:Int)=some (wC p D r B):=by
 have h7:=hp.pos;have hBl:=hB.1;have hrl:=hr.1;unfold f_G;rw[xR (by omega),bs,zLu (p:=p) (r:=r) (B:=B)];have:=zZ (body:=zS6 p r B) (r:=acc p D D r B) (fun i=>(acc p D i r B,(i:Int))) D (fun i hi=>by
  have hri:=hr.2 i hi;unfold zS6;simp only
  rw[hrl,hBl,xK hi,zN,zN];have inner:=zZ (body:=zS5 p r B (acc p D i r B,(i:Int))) (r:=acc p D (i+1) r B) (fun k=>(zDm p D i k r B,(k:Int))) D (fun k hk=>by
   obtain⟨b1,b2,b3,b4⟩:=zRz hB hi hk;have ha:=zLt (p:=p) (i:=i) (k:=k) (r:=r) (B:=B) (by omega) hk;have hm:=zIP (by omega) hri b4;unfold zS5;simp only
   rw[zH0,xK hk,zN,b1,bs,b3,xK hk,zN,zOw hk,bs,yT (by omega),bs,bs,b2,bs,zC (by omega) (by omega),bs,zC (by omega) (by omega),bs];have hrem:uJ (at0 (zDm p D i k r B) k+at0 r i*ent B i k) p=some ((at0 (zDm p D i k r B) k+at0 r i*ent B i k)%p):=by unfold uJ;rw[if_neg (by omega),Kx (by omega)]
   rw[hrem,bs,bs,zC (by omega) (by omega),bs,cs,Je,zLs hk rfl]) (by
   unfold zS5;simp only
   rw[zH0,xX,zL,zIO])
  rw[zIN,show((0:Nat):Int)=0 from rfl]at inner;rw[inner,bs,zC (by omega) (by omega),bs,cs]) (by
  unfold zS6;simp only
  rw[hrl,xX,zL])
 rw[show((0:Nat):Int)=0 from rfl]at this;rw[this,bs];rfl
theorem zJA{a:Int}(h0:0≤a)(_h1:a≤1000):zKk a p=some (a%p):=by
 have _:=hD;have h7:=hp.pos;have e1:=Le a (show p≠0 by omega);have e2:=Kv a (show 0<p by omega);unfold zKk uJ;rw[if_neg (by omega),bs,Kx h0,zC (by omega) (by omega),bs,if_neg (by omega),bs,Kx (by omega)]
 congr 1
 rw[Un,Kc]
theorem zFx{i:Nat}{r:List Int}{B:Mx}(hi:i<D)(hr:Row p D r)(hB:Mat p D B):f_s (acc p D i r B) (B.getD i []) (at0 r i) p=some (acc p D (i+1) r B):=by
 have h7:=hp.pos;have hri:=hr.2 i hi;unfold f_s;have hl:(acc p D i r B).length=D:=yC _ _;have inner:=zZ (body:=zLZ (acc p D i r B) (B.getD i []) (at0 r i) p) (r:=acc p D (i+1) r B) (fun k=>(zDm p D i k r B,(k:Int))) D (fun k hk=>by
  obtain⟨b1,b2,b3,b4⟩:=zRz hB hi hk;have ha:=zLt (p:=p) (i:=i) (k:=k) (r:=r) (B:=B) (by omega) hk;have hm:=zIP (by omega) hri b4;unfold zLZ;simp only
  rw[hl,xK hk,zN,zOw hk,bs,b2,bs,zC (by omega) (by omega),bs,zC (by omega) (by omega),bs,zJA hp hD (by omega) (by omega),bs,bs,zC (by omega) (by omega),bs,cs,Je,zLs hk rfl]) (by
  unfold zLZ;simp only
  rw[hl,xX,zL,zIO])
 rw[zIN,show((0:Nat):Int)=0 from rfl]at inner;rw[inner,bs]
theorem zBn{r:List Int}{B:Mx}{q:Int}(hr:Row p D r)(hB:Mat p D B)(hq:q=(D:Int)):f_Z r (zS.mk p q B)=some (wC p D r B):=by
 subst hq;have hrl:=hr.1;unfold f_Z;simp only
 rw[xR (by omega),bs,zLu (p:=p) (r:=r) (B:=B)];have:=zZ (body:=zSV r (zS.mk p (D:Int) B)) (r:=acc p D D r B) (fun i=>(acc p D i r B,(i:Int))) D (fun i hi=>by
  have hBl:=hB.1;unfold zSV;simp only
  rw[hrl,xK hi,zN,yT (by omega),bs,xD [] (by omega),bs,zFx hp hD hi hr hB,bs,zC (by omega) (by omega),bs,cs]) (by
  unfold zSV;simp only
  rw[hrl,xX,zL])
 rw[show((0:Nat):Int)=0 from rfl]at this;rw[this,bs];rfl
theorem zPs{A B:Mx}{i:Nat}(hi:i<A.length):(PM p D A B).take i++[wC p D (A.getD i []) B]=(PM p D A B).take (i+1):=by
 have _:=hp;have _:=hD;rw[K8 (by rw[tD];exact hi)]
 congr 2
 have:=zBB (p:=p) (D:=D) (B:=B) hi;rw[J2,J3 (by rw[tD];exact hi)]at this;exact this.symm
theorem zIf{A B:Mx}{q:Int}(hA:Mat p D A)(hB:Mat p D B):zU7 (zS.mk p q A) (zS.mk p (D:Int) B)=some (zS.mk p (D:Int) (PM p D A B)):=by
 have hAl:=hA.1;unfold zU7;have:=zZ (body:=zMa (zS.mk p q A) (zS.mk p (D:Int) B)) (r:=PM p D A B) (fun i=>((PM p D A B).take i,(i:Int))) D (fun i hi=>by
  unfold zMa;simp only
  rw[hAl,xK hi,zN,xD [] (by omega),bs,zBn hp hD (hA.2 i hi) hB rfl,bs,yO (by rw[Ka,tD];simp;omega),bs,zC (by omega) (by omega),bs,cs,zPs hp hD (by omega)]) (by
  unfold zMa;simp only
  rw[hAl,xX,zL,Jr (by rw[tD];omega)])
 rw[show((0:Nat):Int)=0 from rfl,K6]at this;rw[this,bs]
theorem zLv{i:Nat}(_hi:i<D):(J1 D (0:Int)).set i 1=mkv D fun j=>if j=i then 1 else 0:=by have _:=hp;have _:=hD;rw[tT,jB]
theorem zOx{i:Nat}(hi:i<D):(idM D).take i++[mkv D fun j=>if j=i then 1 else 0]=(idM D).take (i+1):=by
 have _:=hp;have _:=hD;rw[K8 (by rw[uC];exact hi)]
 congr 2
 have:=zCV hi;rw[J2,J3 (by rw[uC];exact hi)]at this;exact this.symm
theorem zMS:f_H (D:Int)=some (idM D):=by
 unfold f_H;have:=zZ (body:=zLV (D:Int)) (r:=idM D) (fun i=>((idM D).take i,(i:Int))) D (fun i hi=>by
  unfold zLV;simp only
  rw[xK hi,zN,xR (by omega),bs,uF,Kr,if_pos hi,bs,Je,zLv hp hD hi,yO (by rw[Ka,uC];simp;omega),bs,zC (by omega) (by omega),bs,cs,zOx hp hD hi]) (by
  unfold zLV;simp only
  rw[xX,zL,Jr (by rw[uC];omega)])
 rw[show((0:Nat):Int)=0 from rfl,K6]at this;rw[this,bs]
theorem zAO:f_K p (D:Int)=some (zS.mk p (D:Int) (idM D)):=by
 unfold f_K;have:=zZ (body:=zSU (D:Int)) (r:=idM D) (fun i=>((idM D).take i,(i:Int))) D (fun i hi=>by
  unfold zSU;simp only
  rw[xK hi,zN,xR (by omega),bs,uF,Kr,if_pos hi,bs,Je,zLv hp hD hi,yO (by rw[Ka,uC];simp;omega),bs,zC (by omega) (by omega),bs,cs,zOx hp hD hi]) (by
  unfold zSU;simp only
  rw[xX,zL,Jr (by rw[uC];omega)])
 rw[show((0:Nat):Int)=0 from rfl,K6]at this;rw[this,bs]
end
end Go.Pl

namespace Go.Pl
open Go Go.Ab Go.Wk Go.Pc
def nw:Nat→List Int→List Nat
 |_,[]=>[]
 |o,a::v=>J1 a.toNat o++nw (o+1) v
theorem zCW:∀(o:Nat)(u v:List Int),nw o (u++v)=nw o u++nw (o+u.length) v
 |o,[],v=>by simp[nw]
 |o,a::u,v=>by simp only[Jq,nw,zCW (o+1) u v,Ja,J6];rw[show o+1+u.length=o+(u.length+1)from by omega]
theorem zOy{v:List Int}{i:Nat}(h:i<v.length):nw 0 (v.take (i+1))=nw 0 (v.take i)++J1 (at0 v i).toNat i:=by rw[K8 h,zCW,Ka,Qi (by omega),Jf];simp only[nw,J9];rw[at0,J2,J3 h];rfl
theorem zLw{n:Nat}:∀(o:Nat)(v:List Int),o+v.length≤n→ ∀w∈nw o v,w<n
 |o,[],_,w,h=>by simp[nw]at h
 |o,a::v,hv,w,h=>by
  simp only[nw,Jj,J6]at h hv;rcases h with h|h
  ·have:=Js h;omega
  ·exact zLw (o+1) v (by omega) w h
theorem zFy:∀(o:Nat)(v:List Int),(∀i,i<v.length→at0 v i≤6)→(nw o v).length≤6*v.length
 |o,[],_=>by simp[nw]
 |o,a::v,h=>by
  have h0:=h 0 (by simp);have:=zFy (o+1) v fun i hi=>by have:=h (i+1) (by simpa using hi);simpa[at0]using this
  simp only[at0,Lu]at h0;simp only[nw,J5,Jh,J6];omega
def wM(p:Int)(D:Nat)(A:List Mx)(ws:List Nat)(B:Mx):Mx:=ws.foldl (fun B w=>PM p D B (A.getD w [])) B
theorem zFz{p:Int}{D:Nat}{A:List Mx}{u v:List Nat}{B:Mx}:wM p D A (u++v) B=wM p D A v (wM p D A u B):=by simp[wM,Ud]
theorem zMT{p:Int}{D:Nat}{A:List Mx}{w:Nat}:∀(k:Nat)(B:Mx),wM p D A (J1 k w) B=iter k (fun B=>PM p D B (A.getD w [])) B
 |0,_=>rfl
 |k+1,B=>by rw[Jo];show wM p D A (J1 k w) (PM p D B (A.getD w []))=_;rw[zMT k];rfl
theorem zH2{p:Int}{D:Nat}{A:List Mx}(hp:0<p):∀(ws:List Nat){B:Mx},Mat p D B→Mat p D (wM p D A ws B)
 | [],_,hB=>hB
 |_w::ws,_,hB=>zH2 hp ws (zHy hp hB.1)
theorem zJB{p:Int}{D:Nat}{A:List Mx}(hp:0<p){C:Mx}(hC:C.length=D):∀(ws:List Nat){B:Mx},Mat p D B→wM p D A ws (PM p D C B)=PM p D C (wM p D A ws B)
 | [],_,_=>rfl
 |w::ws,B,hB=>by show wM p D A ws (PM p D (PM p D C B) (A.getD w []))=PM p D C (wM p D A ws (PM p D B (A.getD w [])));rw[zLr hC hB.1,zJB hp hC ws (zHy hp hB.1)]
structure MOk (n:Nat) (m:zG) (D:Nat):Prop where
 p:Prime m.Prime
 d:m.Dim=(D:Int)
 d1:1≤D
 d3:D≤3
 len:m.zQ.length=n
 mat:∀i,i<n→Mat m.Prime D (m.zQ.getD i [])
structure zR0 (n:Nat) (m:zG) (D:Nat):Prop where
 p:Prime m.Prime
 d1:1≤D
 d3:D≤200
 len:m.zQ.length=n
 mat:∀i,i<n→Mat m.Prime D (m.zQ.getD i [])
theorem MOk.b{n D:Nat}{m:zG}(h:MOk n m D):zR0 n m D:=⟨h.p,h.d1,by have:=h.d3;omega,h.len,h.mat⟩
section
variable {n D:Nat}{m:zG} (hm:MOk n m D) (hn:n≤9)
 include hm hn
abbrev enW(ws:List Nat):List Int:=ws.map fun(w:Nat)=>(w:Int)+1
theorem zDy{i:Nat}(hi:i<n):zSO m (i:Int)=some (zS.mk m.Prime (D:Int) (m.zQ.getD i [])):=by have _:=hn;have hlen:=hm.len;unfold zSO;rw[xD [] (by omega),bs,hm.d]
theorem zIg{ws:List Nat}(hw:∀w∈ws,w<n)(hl:ws.length≤1000000):f_L m (enW ws)=some (zS.mk m.Prime (D:Int) (wM m.Prime D m.zQ ws (idM D))):=by
 have h7:=hm.p.pos;have h3:=hm.d3;unfold f_L;rw[hm.d,zAO hm.p (by omega),bs];have hI:∀i,Mat m.Prime D (wM m.Prime D m.zQ (ws.take i) (idM D)):=fun i=>zH2 (by omega) _ (qM h7.1)
 have hel:(enW ws).length=ws.length:=by simp only[enW,Jc]
 have:=zZ (body:=zSW m (enW ws)) (r:=(m.Prime,(D:Int),wM m.Prime D m.zQ ws (idM D))) (fun i=>(m.Prime,(D:Int),wM m.Prime D m.zQ (ws.take i) (idM D),(i:Int))) ws.length (fun i hi=>by
  have hwi:=hw ws[i] (Kj hi);unfold zSW;simp only
  rw[hel,xK hi,zN,uF,K0,J3 hi];simp only[Hj];rw[bs,zC (by omega) (by omega),bs,show((ws[i]:Nat):Int)+1-1=((ws[i]:Nat):Int)from by omega,zDy hm hn hwi,bs,zIf hm.p (by omega) (hI i) (hm.mat _ hwi),bs,zC (by omega) (by omega),bs,cs,K8 hi,zFz];rfl) (by
  unfold zSW;simp only
  rw[hel,xX,zL,Jr (by omega)])
 rw[show((0:Nat):Int)=0 from rfl,K6]at this;simp only[wM,Jae]at this;simp only
 rw[this,bs];rfl
end
theorem kP{v:List Int}(hl:v.length≤9)(hv:∀i,i<v.length→0≤at0 v i∧at0 v i≤6):f_v v=some (enW (nw 0 v)):=by
 unfold f_v;have hlen:∀i,(nw 0 (v.take i)).length≤54:=fun i=>by
  have:=zFy 0 (v.take i) fun j hj=>by
   rw[Ka]at hj;have e:at0 (v.take i) j=at0 v j:=by simp only[at0,J2,H3];rw[if_pos (by omega)]
   rw[e];exact(hv j (by omega)).2
  rw[Ka]at this;omega
 have:=zZ (body:=zSQ v) (r:=enW (nw 0 v)) (fun i=>(enW (nw 0 (v.take i)),(i:Int))) v.length (fun i hi=>by
  have hvi:=hv i hi;have hli:=hlen i;unfold zSQ;simp only
  rw[xK hi,zN,yT hi,bs];have inner:=zZ (body:=zSP (enW (nw 0 (v.take i)),(i:Int)) (at0 v i)) (r:=enW (nw 0 (v.take (i+1)))) (fun k=>(enW (nw 0 (v.take i)++J1 k i),(k:Int))) (at0 v i).toNat (fun k hk=>by
   unfold zSP;simp only
   rw[decide_eq_true (by omega),zN,zC (by omega) (by omega),bs,yO (by simp only[Jc,J5,Jh,J6,Jw];omega),bs,zC (by omega) (by omega),bs,cs]
   congr 3
   rw[H4,←Ja];simp only[enW,Ks,Ju,Lw];rfl) (by
   unfold zSP;simp only
   rw[decide_eq_false (by omega),zL,zOy hi])
  rw[show((0:Nat):Int)=0 from rfl,He,J9]at inner;rw[inner,bs,zC (by omega) (by omega),bs,cs]) (by
  unfold zSQ;simp only
  rw[xX,zL,Hg])
 rw[show((0:Nat):Int)=0 from rfl,K6]at this;simp only[nw,enW,Lw]at this;rw[this,bs]
theorem zMU{v o:Int}(h:zU6 1 (IntKind.wrap .u64 o)=some (0,o)):zU6 (IntKind.wrap .u64 (([v]:List Int).length:Int)) (IntKind.wrap .u64 o)=some (0,o):=by rw[show IntKind.wrap .u64 (([v]:List Int).length:Int)=1 from by simp;decide];exact h
theorem zC8{v o:Int}(ho:Prime o):f_i [v] o=some (J1 o.toNat v):=by
 unfold f_i;rcases ho with rfl|rfl|rfl|rfl
 ·have h:=zZ (body:=tJ) (r:=[v,v]) (fun i=>match i with|0=>([v,0],1)|_=>([v,v],2)) 1 (fun i hi=>by
   match i,hi with
   |0,_=>simp[tJ,yB,xQ,rng,inR]) (by simp[tJ])
  rw[zMU (by decide+kernel),bs];have hl:xF (IntKind.wrap .i64 2)=some 2:=by decide+kernel
  simp only[hl,bs];rw[show decide ((2:Int)<0)=false from rfl,zL,show decide ((0:Int)> 0)=false from rfl,zL,show decide ((2:Int)> 9223372036854775807)=false from by decide,zL];have e2:xQ (J1 2 (0:Int)) 0 (([v]:List Int).take ((J1 2 (0:Int)).length-0))=[v,0]:=by simp[xQ,J1]
  have e3:((min ([v]:List Int).length ((J1 2 (0:Int)).length-0):Nat):Int)=1:=by simp
  rw[e2,e3];have h':zI tJ ([v,0],1)=_:=h;rw[h',bs];rfl
 ·have h:=zZ (body:=tJ) (r:=[v,v,v]) (fun i=>match i with|0=>([v,0,0],1)|1=>([v,v,0],2)|_=>([v,v,v],3)) 2 (fun i hi=>by
   match i,hi with
   |0,_=>simp[tJ,yB,xQ,rng,inR]
   |1,_=>simp[tJ,yB,xQ,rng,inR]) (by simp[tJ])
  rw[zMU (by decide+kernel),bs];have hl:xF (IntKind.wrap .i64 3)=some 3:=by decide+kernel
  simp only[hl,bs];rw[show decide ((3:Int)<0)=false from rfl,zL,show decide ((0:Int)> 0)=false from rfl,zL,show decide ((3:Int)> 9223372036854775807)=false from by decide,zL];have e2:xQ (J1 3 (0:Int)) 0 (([v]:List Int).take ((J1 3 (0:Int)).length-0))=[v,0,0]:=by simp[xQ,J1]
  have e3:((min ([v]:List Int).length ((J1 3 (0:Int)).length-0):Nat):Int)=1:=by simp
  rw[e2,e3];have h':zI tJ ([v,0,0],1)=_:=h;rw[h',bs];rfl
 ·have h:=zZ (body:=tJ) (r:=[v,v,v,v,v]) (fun i=>match i with|0=>([v,0,0,0,0],1)|1=>([v,v,0,0,0],2)|2=>([v,v,v,v,0],4)|_=>([v,v,v,v,v],5)) 3 (fun i hi=>by
   match i,hi with
   |0,_=>simp[tJ,yB,xQ,rng,inR]
   |1,_=>simp[tJ,yB,xQ,rng,inR]
   |2,_=>simp[tJ,yB,xQ,rng,inR]) (by simp[tJ])
  rw[zMU (by decide+kernel),bs];have hl:xF (IntKind.wrap .i64 5)=some 5:=by decide+kernel
  simp only[hl,bs];rw[show decide ((5:Int)<0)=false from rfl,zL,show decide ((0:Int)> 0)=false from rfl,zL,show decide ((5:Int)> 9223372036854775807)=false from by decide,zL];have e2:xQ (J1 5 (0:Int)) 0 (([v]:List Int).take ((J1 5 (0:Int)).length-0))=[v,0,0,0,0]:=by simp[xQ,J1]
  have e3:((min ([v]:List Int).length ((J1 5 (0:Int)).length-0):Nat):Int)=1:=by simp
  rw[e2,e3];have h':zI tJ ([v,0,0,0,0],1)=_:=h;rw[h',bs];rfl
 ·have h:=zZ (body:=tJ) (r:=[v,v,v,v,v,v,v]) (fun i=>match i with|0=>([v,0,0,0,0,0,0],1)|1=>([v,v,0,0,0,0,0],2)|2=>([v,v,v,v,0,0,0],4)|_=>([v,v,v,v,v,v,v],7)) 3 (fun i hi=>by
   match i,hi with
   |0,_=>simp[tJ,yB,xQ,rng,inR]
   |1,_=>simp[tJ,yB,xQ,rng,inR]
   |2,_=>simp[tJ,yB,xQ,rng,inR]) (by simp[tJ])
  rw[zMU (by decide+kernel),bs];have hl:xF (IntKind.wrap .i64 7)=some 7:=by decide+kernel
  simp only[hl,bs];rw[show decide ((7:Int)<0)=false from rfl,zL,show decide ((0:Int)> 0)=false from rfl,zL,show decide ((7:Int)> 9223372036854775807)=false from by decide,zL];have e2:xQ (J1 7 (0:Int)) 0 (([v]:List Int).take ((J1 7 (0:Int)).length-0))=[v,0,0,0,0,0,0]:=by simp[xQ,J1]
  have e3:((min ([v]:List Int).length ((J1 7 (0:Int)).length-0):Nat):Int)=1:=by simp
  rw[e2,e3];have h':zI tJ ([v,0,0,0,0,0,0],1)=_:=h;rw[h',bs];rfl
end Go.Pl

namespace Go.Pl
open Go Go.Ab Go.Wk Go.Pc
def zF0(x:SPr)(m:zG)(D:Nat):Prop:=
 ∀i,i<x.zA.length→wM m.Prime D m.zQ (J1 (at0 x.zA i).toNat i) (idM D)=wM m.Prime D m.zQ (nw 0 (x.zU.getD i [])) (idM D)∧
  ∀j,i+1≤j→j<x.zA.length→PM m.Prime D (m.zQ.getD j []) (m.zQ.getD i [])=PM m.Prime D (m.zQ.getD i []) (wM m.Prime D m.zQ (nw 0 ((x.zF.getD i []).getD (j-(i+1)) [])) (idM D))
theorem zAl{x:SPr}{v:List Int}{i:Nat}(ho:Os x.zA)(h:Exp x.zA v i):v.length=x.zA.length∧ ∀j,j<x.zA.length→0≤at0 v j∧at0 v j≤6:=by have h1:=h.1.1;refine⟨h1,fun j hj=>?_⟩;have:=h.1.2 j (by omega);have:=(ho.2 j hj).pos;omega
end Go.Pl

namespace Go.Pl
open Go Go.Ab Go.Wk Go.Pc
abbrev Rl:=List Nat×List Nat
def r1(x:SPr)(i:Nat):Rl:=(J1 (at0 x.zA i).toNat i,nw 0 (x.zU.getD i []))
def r2(x:SPr)(i j:Nat):Rl:=([i+j+1,i],i::nw 0 ((x.zF.getD i []).getD j []))
def R2(x:SPr)(i:Nat):List Rl:=(Jl (x.zF.getD i []).length).map (r2 x i)
def uP(x:SPr):List Rl:=(Jl x.zA.length).map (r1 x)++(Jl x.zA.length).flatMap (R2 x)
abbrev enR(q:Rl):List Int×List Int:=(enW q.1,enW q.2)
section
variable {x:SPr} (h:Pres x)
 include h
theorem zWA{i:Nat}(hi:i<x.zA.length):(R2 x i).length≤9:=by have:=(h.tl i hi).2.1;have:=h.os.1;simp only[R2,Jc,Kt];omega
theorem zJC:∀i,i≤x.zA.length→((Jl i).flatMap (R2 x)).length≤9*i
 |0,_=>by simp
 |i+1,hi=>by have:=zJC i (by omega);have:=zWA h (i:=i) (by omega);rw[Lq,Lx,J5];simp only[Ln,Jaf,J9];omega
theorem zUb{k i:Nat}:enW (J1 k i)=J1 k ((i:Int)+1):=by have _:=h;simp[enW]
theorem zDN:f_z x=some ((uP x).map enR):=by
 have h6:=h.os.1;have hpl:=h.pl;have hcl:=h.cl;unfold f_z;have l1:=zZ (body:=zSR x) (r:=((Jl x.zA.length).map (r1 x)).map enR) (fun i=>(((Jl i).map (r1 x)).map enR,(i:Int))) x.zA.length (fun i hi=>by
  obtain⟨p1,p2⟩:=zAl h.os (h.tl i hi).1;unfold zSR;simp only
  rw[xK hi,zN,yT hi,bs,zC (by omega) (by omega),bs,zC8 (h.os.2 i hi),bs,xD [] (by omega),bs,kP (by omega) (by rw[p1];exact p2),bs,yO (by simp only[Jc,Kt,J6,Jw];omega),bs,bs,cs,Lq];simp only[Ks,Ju,Lw,r1,enR,zUb h,cs]) (by
  unfold zSR;simp only
  rw[xX,zL])
 rw[show((0:Nat):Int)=0 from rfl]at l1;simp only[Q5,Lw]at l1;rw[l1,bs];have l3:=zZ (body:=zST x) (r:=(uP x).map enR) (fun i=>(((Jl x.zA.length).map (r1 x)++(Jl i).flatMap (R2 x)).map enR,(i:Int))) x.zA.length (fun i hi=>by
  have t2:=(h.tl i hi).2.1;have hfm:=zJC h i (by omega);unfold zST;simp only
  rw[xK hi,zN,xD [] (by omega),bs];have l2:=zZ (body:=zSS (((Jl x.zA.length).map (r1 x)++(Jl i).flatMap (R2 x)).map enR,(i:Int)) (x.zF.getD i [])) (r:=((Jl x.zA.length).map (r1 x)++(Jl (i+1)).flatMap (R2 x)).map enR)
   (fun j=>(((Jl x.zA.length).map (r1 x)++(Jl i).flatMap (R2 x)++(Jl j).map (r2 x i)).map enR,(j:Int))) (x.zF.getD i []).length (fun j hj=>by
    obtain⟨p1,p2⟩:=zAl h.os ((h.tl i hi).2.2 j hj);have hnl:=zFy 0 ((x.zF.getD i []).getD j []) (by rw[p1];exact fun i hi=>(p2 i hi).2);unfold zSS;simp only
    rw[xK hj,zN,xD [] hj,bs,zC (by omega) (by omega),bs,zC (by omega) (by omega),bs,zC (by omega) (by omega),bs,kP (by omega) (by rw[p1];exact p2),bs,yO (by simp only[Jc,J6,Jw];omega),bs,yO (by simp only[Jc,J5,Kt,J6,Jw];omega),bs,zC (by omega) (by omega),bs,cs,Lq];have e1:(i:Int)+(j:Int)+2=((i+j+1:Nat):Int)+1:=by omega
    simp only[Ks,Ju,Lw,r2,enR,enW,Ja,Hh,e1];rfl) (by
    unfold zSS;simp only
    rw[xX,zL,Lq,Lx];simp only[Ln,Jaf,J9,Ja,R2])
  rw[show((0:Nat):Int)=0 from rfl]at l2;simp only[Q5,Lw,J9]at l2;rw[l2,bs,zC (by omega) (by omega),bs,cs]) (by
  unfold zST;simp only
  rw[xX,zL];rfl)
 rw[show((0:Nat):Int)=0 from rfl]at l3;simp only[Q5,Jaf,J9]at l3;rw[l3,bs]
theorem zPt{q:Rl}(hq:q∈uP x):((∀w∈q.1,w<x.zA.length)∧q.1.length≤1000)∧(∀w∈q.2,w<x.zA.length)∧q.2.length≤1000:=by
 have h6:=h.os.1;simp only[uP,Jj,Jt,Kq,Gf,R2]at hq;rcases hq with⟨i,hi,rfl⟩|⟨i,hi,j,hj,rfl⟩
 ·obtain⟨p1,p2⟩:=zAl h.os (h.tl i hi).1
  have hnl:=zFy 0 (x.zU.getD i []) (by rw[p1];exact fun i hi=>(p2 i hi).2);have hpr:=(h.os.2 i hi).pos;refine⟨⟨fun w hw=>?_,?_⟩,fun w hw=>zLw 0 _ (by omega) w hw,by simp only[r1];omega⟩
  ·have:=Js hw;omega
  ·simp only[r1,Jh];omega
 ·obtain⟨p1,p2⟩:=zAl h.os ((h.tl i hi).2.2 j hj)
  have t2:=(h.tl i hi).2.1;have hnl:=zFy 0 ((x.zF.getD i []).getD j []) (by rw[p1];exact fun i hi=>(p2 i hi).2);refine⟨⟨fun w hw=>?_,by simp[r2]⟩,fun w hw=>?_,by simp only[r2,J6];omega⟩
  ·simp only[r2,Jd,Jb2,or_false]at hw;omega
  ·simp only[r2,Jd]at hw
   rcases hw with rfl|hw
   ·exact hi
   ·exact zLw 0 _ (by omega) w hw
variable {m:zG}{D:Nat} (hm:MOk x.zA.length m D)
 include hm
end
end Go.Pl

namespace Go.Pl
open Go Go.Ab Go.Wk Go.Pc
theorem zF1{xs:List (List Int)}{i:Nat}(h:i<xs.length):(xs.take (i+1)).flatten=(xs.take i).flatten++xs.getD i []:=by rw[K8 h,Qo,J2,J3 h];simp
theorem zJD{xs:List (List Int)}(i:Nat):(xs.take i).flatten.length≤xs.flatten.length:=by
 have:xs.flatten=(xs.take i).flatten++(xs.drop i).flatten:=by rw[←Qo,Jbf]
 rw[this,J5];omega
theorem zPu{k:Nat}(hk:k≤1000000):zSX (k:Int)=some []:=by
 unfold zSX;rw[decide_eq_false (by omega),zL,zC (by decide) (by decide),bs,zC (by omega) (by omega),bs]
 by_cases h:(k:Int)-(0-0)> 0
 ·rw[decide_eq_true h,zN]
  have e:uA ([]:List Int) ((k:Int)-(0-0)) 0=some (J1 k 0):=by unfold uA;rw[if_pos (by simp;omega)];simp
  rw[e,bs];rfl
 ·rw[decide_eq_false h,zL]
theorem zAD{xs:List (List Int)}(hx:xs.length≤1000)(hf:xs.flatten.length≤1000000):f_u xs=some xs.flatten:=by
 unfold f_u;have l1:=zZ (body:=zSY xs) (r:=((xs.flatten.length:Nat):Int)) (fun i=>((((xs.take i).flatten.length:Nat):Int),(i:Int))) xs.length (fun i hi=>by
  have h1:=zF1 hi;have h2:=zJD (xs:=xs) (i+1);have h3:=congrArg Jbq h1;rw[J5]at h3;unfold zSY;simp only
  rw[xK hi,zN,xD [] hi,bs,zC (by omega) (by omega),bs,decide_eq_false (by omega),zL,zC (by omega) (by omega),bs,cs,h3]
  congr 3) (by
  unfold zSY;simp only
  rw[xX,zL,Hg])
 rw[show((0:Nat):Int)=0 from rfl]at l1;simp only[K6,Hw,Jw]at l1;rw[show((0:Nat):Int)=0 from rfl]at l1;rw[l1,bs,zPu hf,bs];have l2:=zZ (body:=zSZ xs) (r:=xs.flatten) (fun i=>((xs.take i).flatten,(i:Int))) xs.length (fun i hi=>by
  have h1:=zF1 hi;have h2:=zJD (xs:=xs) (i+1);have h3:=congrArg Jbq h1;rw[J5]at h3;unfold zSZ;simp only
  rw[xK hi,zN,xD [] hi,bs,yO (by omega),bs,zC (by omega) (by omega),bs,cs,h1]) (by
  unfold zSZ;simp only
  rw[xX,zL,Hg])
 rw[show((0:Nat):Int)=0 from rfl]at l2;simp only[K6,Hw]at l2;rw[l2,bs]
end Go.Pl

namespace Go.Pl
open Go Go.Ab Go.Wk Go.Pc
section
variable {p:Int}
def tI(p:Int)(D:Nat)(r:List Int)(k:Int)(s:List Int):List Int:=mkv D fun j=>(at0 r j+k*at0 s j)%p
theorem zR1{D:Nat}{r s:List Int}{k:Int}:(tI p D r k s).length=D:=yC _ _
def zIh(p:Int)(D i:Nat)(r:List Int)(k:Int)(s:List Int):List Int:=mkv D fun j=>if j<i then(at0 r j+k*at0 s j)%p else at0 r j
theorem zIQ{D:Nat}{r s:List Int}{k:Int}(hr:r.length=D):zIh p D 0 r k s=r:=by
 conv=>rhs;rw[vR hr]
 exact zX fun j _=>by rw[if_neg (by omega)]
theorem zIR{D:Nat}{r s:List Int}{k:Int}:zIh p D D r k s=tI p D r k s:=zX fun j hj=>by rw[if_pos hj]
theorem zLx{D i:Nat}{r s:List Int}{k a:Int}(ha:a=(at0 r i+k*at0 s i)%p):(zIh p D i r k s).set i a=zIh p D (i+1) r k s:=by
 simp only[zIh];rw[jB];refine zX fun j _=>?_
 by_cases h:j=i
 ·subst h;rw[if_pos rfl,if_pos (by omega),ha]
 ·rw[if_neg h]
  by_cases h2:j<i
  ·rw[if_pos h2,if_pos (by omega)]
  ·rw[if_neg h2,if_neg (by omega)]
theorem zOz{D i:Nat}{r s:List Int}{k:Int}(hi:i<D):at0 (zIh p D i r k s) i=at0 r i:=by rw[zIh,yG hi,if_neg (by omega)]
theorem zE3{D i:Nat}{r s:List Int}{k:Int}:(zIh p D i r k s).length=D:=yC _ _
end
section
variable {p:Int} (hp:Prime p)
 include hp
theorem zLy{a:Int}(_h0:-1000≤a)(_h1:a≤1000):zKk a p=some (a%p):=by
 have h7:=hp.pos;have e1:=Jbh a (show 0<p by omega);have e2:=Jbi a (show 0<p by omega);have e3:(Jc5 a p+p)%p=a%p:=by
  rw[Un];have:=Jaw a p
  conv=>rhs;rw[←this]
  rw[Lz]
 unfold zKk uJ;rw[if_neg (by omega),bs,zC (by omega) (by omega),bs,if_neg (by omega),bs,Kx (by omega),e3]
theorem zLz{a:Int}(_h0:-1000≤a)(_h1:a≤1000):zTf a p=some (a%p):=by
 have h7:=hp.pos;have e1:=Jbh a (show 0<p by omega);have e2:=Jbi a (show 0<p by omega);have e3:(Jc5 a p+p)%p=a%p:=by
  rw[Un];have:=Jaw a p
  conv=>rhs;rw[←this]
  rw[Lz]
 unfold zTf uJ;rw[if_neg (by omega),bs]
 by_cases h:Jc5 a p<0
 ·rw[decide_eq_true h,zN,zC (by omega) (by omega),bs,←e3,Ke (by omega) (by omega)]
 ·rw[decide_eq_false h,zL,←e3,Un,Ke (by omega) (by omega)]
theorem zAw{D:Nat}{r s:List Int}{k:Int}:Row p D (tI p D r k s):=by have h7:=hp.pos;refine⟨yC _ _,fun i hi=>?_⟩;have e:at0 (tI p D r k s) i=(at0 r i+k*at0 s i)%p:=yG hi;have e1:=Le (at0 r i+k*at0 s i) (show p≠0 by omega);have e2:=Kv (at0 r i+k*at0 s i) (show 0<p by omega);rw[e];omega
theorem zBC{k b:Int}(hk:-7≤k∧k≤7)(hb:0≤b∧b≤p-1):-49≤k*b∧k*b≤49:=by
 have h7:=hp.pos;rcases Int.le_total 0 k with h|h
 ·have h1:=Gx h hb.1
  have h2:=Lt hk.2 (show b≤7 by omega) hb.1 (by omega);omega
 ·have h1:=Gx (show 0≤ -k by omega) hb.1
  have h2:=Lt (show -k≤7 by omega) (show b≤7 by omega) hb.1 (by omega);rw[Int.neg_mul]at h1 h2;omega
theorem zBo{D:Nat}{r s:List Int}{k:Int}(hr:Row p D r)(hs:Row p D s)(hk:-7≤k∧k≤7)(hD:D≤1000000):f_s r s k p=some (tI p D r k s):=by
 have h7:=hp.pos;have:=zZ (body:=zLZ r s k p) (r:=tI p D r k s) (fun i=>(zIh p D i r k s,(i:Int))) D (fun i hi=>by
  have a1:=hr.2 i hi;have a2:=hs.2 i hi;have a3:=zBC hp hk a2;unfold zLZ;simp only
  rw[hr.1,xK hi,zN,yT (by rw[zE3];exact hi),bs,yT (by rw[hs.1];exact hi),bs,zC (by omega) (by omega),bs,zOz hi,zC (by omega) (by omega),bs,zLy hp (by omega) (by omega),bs,bs,zC (by omega) (by omega),bs,cs,Je,zLx rfl]) (by
  unfold zLZ;simp only
  rw[hr.1,xX,zL,zIR])
 rw[show((0:Nat):Int)=0 from rfl,zIQ hr.1]at this;unfold f_s;rw[this,bs]
theorem tM{D:Nat}{r s:List Int}{k:Int}(hr:Row p D r)(hs:Row p D s)(hk:-7≤k∧k≤7)(hD:D≤1000000):f_w p r k s=some (tI p D r k s):=by
 have h7:=hp.pos;have:=zZ (body:=zTg p k s) (r:=tI p D r k s) (fun i=>(zIh p D i r k s,(i:Int))) D (fun i hi=>by
  have a1:=hr.2 i hi;have a2:=hs.2 i hi;have a3:=zBC hp hk a2;unfold zTg;simp only
  rw[zE3,xK hi,zN,hs.1,xK hi,zN,yT (by rw[zE3];exact hi),bs,yT (by rw[hs.1];exact hi),bs,zC (by omega) (by omega),bs,zOz hi,zC (by omega) (by omega),bs,zLz hp (by omega) (by omega),bs,bs,zC (by omega) (by omega),bs,cs,Je,zLx rfl]) (by
  unfold zTg;simp only
  rw[zE3,xX,zL,zIR])
 rw[show((0:Nat):Int)=0 from rfl,zIQ hr.1]at this;unfold f_w;rw[qJ (by rw[hr.1];omega),bs,this,bs]
end
theorem zDO{p:Int}{D:Nat}{r s:List Int}:tI p D r (p-1) s=tI p D r (-1) s:=zX fun j _=>by rw[show at0 r j+(p-1)*at0 s j=at0 r j+ -1*at0 s j+p*at0 s j from by rw[Ja4];omega,Lz]
end Go.Pl

namespace Go.Pl
open Go Go.Ab Go.Wk Go.Pc
def VOk(n:Nat)(p:Int)(D:Nat)(vals:Mx):Prop:=vals.length=n∧ ∀i,i<n→Row p D (vals.getD i [])
def stp(m:zG)(D:Nat)(vals:Mx)(v:List Int)(w:Nat):List Int:=tI m.Prime D (wC m.Prime D v (m.zQ.getD w [])) 1 (vals.getD w [])
def ev(m:zG)(D:Nat)(vals:Mx)(v:List Int)(ws:List Nat):List Int:=ws.foldl (stp m D vals) v
theorem zIS{m:zG}{D:Nat}{vals:Mx}{v:List Int}{a b:List Nat}:ev m D vals v (a++b)=ev m D vals (ev m D vals v a) b:=by simp[ev,Ud]
theorem zMV{m:zG}{D:Nat}{vals:Mx}{w:Nat}:∀(k:Nat)(v:List Int),ev m D vals v (J1 k w)=iter k (fun v=>stp m D vals v w) v
 |0,_=>rfl
 |k+1,v=>by rw[Jo];show ev m D vals (stp m D vals v w) (J1 k w)=_;rw[zMV k];rfl
abbrev z0(D:Nat):List Int:=J1 D 0
theorem zH3{p:Int}{D:Nat}(hp:0<p):Row p D (z0 D):=by
 refine⟨by simp,fun i hi=>?_⟩;have:at0 (z0 D) i=0:=by simp[z0,at0,J2,hi]
 rw[this];omega
theorem wX{p:Int}{D:Nat}{r:List Int}{B:Mx}(hp:0<p):Row p D (wC p D r B):=by refine⟨yC _ _,fun i hi=>?_⟩;have e1:=Le (S D (fun l=>at0 r l*ent B l i)) (show p≠0 by omega);have e2:=Kv (S D (fun l=>at0 r l*ent B l i)) hp;rw[wC,yG hi];omega
section
variable {n D:Nat}{m:zG} (hm:MOk n m D) (hn:n≤9) {vals:Mx} (hv:VOk n m.Prime D vals)
 include hm hn hv
theorem zBD{v:List Int}{w:Nat}:Row m.Prime D (stp m D vals v w):=by have _:=hn;have _:=hv;exact zAw hm.p
theorem zDP{v:List Int}(h:Row m.Prime D v):∀ws,Row m.Prime D (ev m D vals v ws):=by
 intro ws
 induction ws generalizing v with
 |nil=>exact h
 |cons w ws ih=>exact ih (zBD hm hn hv)
theorem zBp{v:List Int}{w:Nat}(h:Row m.Prime D v)(hw:w<n):zMg m vals v (w:Int)=some (stp m D vals v w):=by have _:=hn;have h7:=hm.p.pos;have h3:=hm.d3;unfold zMg;rw[xD [] (by rw[hm.len];exact hw),bs,hm.d,zH1 hm.p (by omega) h (hm.mat w hw),bs,xD [] (by rw[hv.1];exact hw),bs,tM hm.p (wX (by omega)) (hv.2 w hw) (by omega) (by omega),bs];rfl
theorem zFV{v x:List Int}(h:Row m.Prime D v)(hl:x.length=n)(hx:∀i,i<n→0≤at0 x i∧at0 x i≤6):f_I m vals v x=some (ev m D vals v (nw 0 x)):=by
 have:=zZ (body:=zTj m vals x) (r:=ev m D vals v (nw 0 x)) (fun i=>(ev m D vals v (nw 0 (x.take i)),(i:Int))) n (fun i hi=>by
  have hxi:=hx i hi;unfold zTj;simp only
  rw[hl,xK hi,zN];rw[uS (S:=Row m.Prime D) (body:=zTi m vals x (ev m D vals v (nw 0 (x.take i)),(i:Int))) (fun v=>v) (fun v=>stp m D vals v i) (at0 x i) hxi.1 (fun v _=>zBD hm hn hv) (fun u q hu hq=>by
   unfold zTi;simp only
   rw[yT (by omega),bs,decide_eq_true hq,zN,zBp hm hn hv hu hi,bs,zC (by omega) (by omega),bs,cs]) (fun u hu=>by
   unfold zTi;simp only
   rw[yT (by omega),bs,decide_eq_false (by omega),zL]) (zDP hm hn hv h _),bs,zC (by omega) (by omega),bs,cs]
  rw[zOy (by omega),zIS,zMV]) (by
  unfold zTj;simp only
  rw[hl,xX,zL,Jr (by omega)])
 rw[show((0:Nat):Int)=0 from rfl,K6]at this;simp only[nw,ev,Jae]at this;unfold f_I;rw[this,bs];rfl
theorem zE4{ws:List Nat}(hw:∀w∈ws,w<n)(hl:ws.length≤1000):zTk m vals (enW ws)=some (ev m D vals (z0 D) ws):=by
 have h7:=hm.p.pos;have h3:=hm.d3;unfold zTk;rw[hm.d,xR (by omega),bs];have hz:=zH3 (p:=m.Prime) (D:=D) (by omega);have hel:(enW ws).length=ws.length:=by simp only[enW,Jc]
 have:=zZ (body:=zMh m vals (enW ws)) (r:=ev m D vals (z0 D) ws) (fun i=>(ev m D vals (z0 D) (ws.take i),(i:Int))) ws.length (fun i hi=>by
  have hwi:=hw ws[i] (Kj hi);have hr:=zDP hm hn hv hz (ws.take i);unfold zMh;simp only
  rw[hel,xK hi,zN,uF,K0,J3 hi];simp only[Hj];rw[bs,zC (by omega) (by omega),bs,show((ws[i]:Nat):Int)+1-1=((ws[i]:Nat):Int)from by omega,zDy hm hn hwi,bs,zBn hm.p (by omega) hr (hm.mat _ hwi) rfl,bs,bs,xD [] (by rw[hv.1];exact hwi),bs,zBo hm.p (wX (by omega)) (hv.2 _ hwi) (by omega) (by omega),bs,zC (by omega) (by omega),bs,cs,K8 hi,zIS];rfl) (by
  unfold zMh;simp only
  rw[hel,xX,zL,Jr (by omega)])
 rw[show((0:Nat):Int)=0 from rfl,K6]at this;simp only[ev,Jae]at this;rw[this,bs];rfl
end
section
variable {x:SPr} (h:Pres x) {m:zG}{D:Nat} (hm:MOk x.zA.length m D) {vals:Mx} (hv:VOk x.zA.length m.Prime D vals)
 include h hm hv
abbrev dfc(m:zG)(D:Nat)(vals:Mx)(q:Rl):List Int:=tI m.Prime D (ev m D vals (z0 D) q.1) (-1) (ev m D vals (z0 D) q.2)
theorem zJE:(uP x).length≤100:=by have _:=hv;have _:=hm;have h6:=h.os.1;have hfm:=zJC h x.zA.length (Jp _);simp only[uP,J5,Jc,Kt];omega
theorem zJF:zUG x m vals=some ((uP x).map (dfc m D vals)):=by
 have h6:=h.os.1;have h7:=hm.p.pos;have h3:=hm.d3;have hrl:=zJE h hm hv;have hz:=zH3 (p:=m.Prime) (D:=D) (by omega);unfold zUG;rw[zDN h,bs];have:=zZ (body:=zMi m vals ((uP x).map enR)) (r:=(uP x).map (dfc m D vals)) (fun i=>(((uP x).map (dfc m D vals)).take i,(i:Int))) (uP x).length (fun i hi=>by
  have hmem:(uP x)[i]∈uP x:=Kj hi;obtain⟨⟨g1,g2⟩,g3,g4⟩:=zPt h hmem;unfold zMi;simp only
  rw[Jc,xK hi,zN,uF,K0,J3 hi];simp only[Hj];rw[bs,zE4 hm h6 hv g1 g2,bs,zE4 hm h6 hv g3 g4,bs,zBo hm.p (zDP hm h6 hv hz _) (zDP hm h6 hv hz _) (by omega) (by omega),bs,yO (by simp;omega),bs,zC (by omega) (by omega),bs,cs,K8 (by simpa using hi)];simp only[Jd7]) (by
  unfold zMi;simp only
  rw[Jc,xX,zL,Jr (by simp)])
 rw[show((0:Nat):Int)=0 from rfl,K6]at this;rw[this,bs]
end
end Go.Pl

namespace Go.Pl
open Go Go.Ab Go.Wk Go.Pc
theorem zL0{a b:Int}(h:a=b):(a==b)=true:=by simp[h]
theorem zL1{a b:Int}(h:a≠b):(a==b)=false:=by simp[h]
end Go.Pl

namespace Go.Pl
open Go Go.Ab Go.Wk Go.Pc
theorem IsB.both{o o':Option Bool}{P:Prop}(h:IsB o P)(h':IsB o' P):(o=some true∧o'=some true∧P)∨(o=some false∧o'=some false∧ ¬P):=by
 rcases h with⟨h1,h2⟩|⟨h1,h2⟩<;>rcases h' with⟨h3,h4⟩|⟨h3,h4⟩
 ·exact .inl ⟨h1,h3,h2⟩
 ·exact absurd h2 h4
 ·exact absurd h4 h2
 ·exact .inr ⟨h1,h3,h2⟩
end Go.Pl

namespace Go.Pl
open Go Go.Ab Go.Wk Go.Pc
def Sp(p:Int)(n:Nat)(R:Mx)(v:List Int):Prop:=∃c:Nat→Int,∀j,j<n→(S R.length fun i=>c i*ent R i j)%p=at0 v j%p
section
variable {p:Int}{n:Nat}{R R':Mx}{u v w:List Int}
theorem qC{i:Nat}(hi:i<R.length):Sp p n R (R.getD i []):=by refine⟨fun l=>if l=i then 1 else 0,fun j _=>?_⟩;rw[kW (k:=i) hi (fun l _ hl=>by simp[hl])];simp
theorem zAP{k:Int}(hv:Sp p n R v)(hw:Sp p n R w)(h:∀j,j<n→at0 u j%p=(at0 v j+k*at0 w j)%p):Sp p n R u:=by
 obtain⟨c,hc⟩:=hv;obtain⟨d,hd⟩:=hw;refine⟨fun i=>c i+k*d i,fun j hj=>?_⟩;have e:(S R.length fun i=>(c i+k*d i)*ent R i j)=(S R.length fun i=>c i*ent R i j)+k*(S R.length fun i=>d i*ent R i j):=by rw[←zC6,←zC5];exact xG fun i _=>by rw[Qf,Hf]
 rw[e,h j hj,Kl,hc j hj,Jx,hd j hj,←Jx,←Kl]
theorem zE5(h:∀j,j<n→at0 u j%p=0):Sp p n R u:=by refine⟨fun _=>0,fun j hj=>?_⟩;rw[h j hj,xG (g:=fun _=>0) (fun i _=>by simp),qB];simp
theorem kK(h:∀i,i<R.length→Sp p n R' (R.getD i []))(hv:Sp p n R v):Sp p n R' v:=by
 obtain⟨c,hc⟩:=hv;have key:∀m,m≤R.length→ ∃d:Nat→Int,∀j,j<n→(S R'.length fun i=>d i*ent R' i j)%p=(S m fun i=>c i*ent R i j)%p:=by
  intro m
  induction m with
  |zero=>intro _;exact⟨fun _=>0,fun j _=>by rw[xG (g:=fun _=>0) (fun i _=>by simp),qB];rfl⟩
  |succ m ih=>
   intro hm;obtain⟨d,hd⟩:=ih (by omega);obtain⟨e,he⟩:=h m (by omega);refine⟨fun i=>d i+c m*e i,fun j hj=>?_⟩;have e1:(S R'.length fun i=>(d i+c m*e i)*ent R' i j)=(S R'.length fun i=>d i*ent R' i j)+c m*(S R'.length fun i=>e i*ent R' i j):=by rw[←zC6,←zC5];exact xG fun i _=>by rw[Qf,Hf]
   rw[e1,Kl,hd j hj,Jx,he j hj,←Jx,←Kl];rfl
 obtain⟨d,hd⟩:=key R.length (Jp _);exact⟨d,fun j hj=>by rw[hd j hj,hc j hj]⟩
end
def jC(p:Int)(n:Nat)(R R':Mx):Prop:=(∀i,i<R.length→Sp p n R' (R.getD i []))∧ ∀i,i<R'.length→Sp p n R (R'.getD i [])
theorem jC.refl{p:Int}{n:Nat}{R:Mx}:jC p n R R:=⟨fun _ h=>qC h,fun _ h=>qC h⟩
theorem jC.symm{p:Int}{n:Nat}{R R':Mx}(h:jC p n R R'):jC p n R' R:=⟨h.2,h.1⟩
theorem jC.trans{p:Int}{n:Nat}{R R' R2:Mx}(h:jC p n R R')(h':jC p n R' R2):jC p n R R2:=⟨fun i hi=>kK h'.1 (h.1 i hi),fun i hi=>kK h.2 (h'.2 i hi)⟩
theorem jC.iff{p:Int}{n:Nat}{R R':Mx}{v:List Int}(h:jC p n R R'):Sp p n R v↔Sp p n R' v:=⟨fun g=>kK h.1 g,fun g=>kK h.2 g⟩
structure Red (p:Int) (n:Nat) (R:Mx) (pv:Nat→Nat):Prop where
 row:∀i,i<R.length→Row p n (R.getD i [])
 lt:∀i,i<R.length→pv i<n
 one:∀i,i<R.length→ent R i (pv i)=1
 low:∀i,i<R.length→ ∀j,j<pv i→ent R i j=0
 off:∀i k,i<R.length→k<R.length→k≠i→ent R k (pv i)=0
 mono:∀i j,i<j→j<R.length→pv i<pv j
section
variable {p:Int} (hp:1<p) {n:Nat}{R R':Mx}{pv pv':Nat→Nat}{v:List Int}
theorem Red.coef(h:Red p n R pv){c:Nat→Int}(hc:∀j,j<n→(S R.length fun i=>c i*ent R i j)%p=at0 v j%p){k:Nat}(hk:k<R.length):c k%p=at0 v (pv k)%p:=by rw[←hc (pv k) (h.lt k hk),kW (k:=k) hk (fun i hi hne=>by rw[h.off k i hk hi hne];simp),h.one k hk];simp
theorem Red.expand(h:Red p n R pv)(hv:Sp p n R v):∀j,j<n→at0 v j%p=(S R.length fun i=>at0 v (pv i)*ent R i j)%p:=by obtain⟨c,hc⟩:=hv;intro j hj;rw[←hc j hj];exact kJ fun i hi=>by rw[Jx,h.coef hc hi,←Jx]
theorem Red.lead(h:Red p n R pv)(hv:Sp p n R v)(hne:∃j,j<n∧at0 v j%p≠0):∃i,i<R.length∧(∀j,j<pv i→at0 v j%p=0)∧at0 v (pv i)%p≠0:=by
 have hx:=h.expand hv;have h1:∃i,i<R.length∧at0 v (pv i)%p≠0:=by
  refine Classical.byContradiction fun hn=>?_
  obtain⟨j,hj,hj2⟩:=hne;refine hj2 ?_;rw[hx j hj,kJ (g:=fun _=>0) (fun i hi=>by
   have:at0 v (pv i)%p=0:=Classical.byContradiction fun h0=>hn ⟨i,hi,h0⟩
   rw[Jx,this];simp),qB];rfl
 obtain⟨i,⟨hi,hi2⟩,hmin⟩:=zBd h1;refine⟨i,hi,fun j hj=>?_,hi2⟩;have hjn:j<n:=Nat.lt_trans hj (h.lt i hi);rw[hx j hjn,kJ (g:=fun _=>0) (fun k hk=>by
  rcases Jk k i with hki|hki
  ·have:at0 v (pv k)%p=0:=Classical.byContradiction fun h0=>hmin k hki ⟨hk,h0⟩
   rw[Jx,this];simp
  ·have h2:pv i≤pv k:=by
    rcases Jk i k with h3|h3
    ·exact Nat.le_of_lt (h.mono i k h3 hk)
    ·rw[show i=k from by omega];exact Jp _
   rw[h.low k hk j (by omega)];simp),qB];rfl
 include hp
theorem Red.row_lead(h:Red p n R pv){i:Nat}(hi:i<R.length):(∃j,j<n∧at0 (R.getD i []) j%p≠0)∧(∀j,j<pv i→at0 (R.getD i []) j%p=0)∧at0 (R.getD i []) (pv i)%p≠0:=by
 have h1:at0 (R.getD i []) (pv i)%p≠0:=by have:=h.one i hi;simp only[ent]at this;rw[this,Ke (by omega) hp];omega
 refine⟨⟨pv i,h.lt i hi,h1⟩,fun j hj=>?_,h1⟩;have:=h.low i hi j hj;simp only[ent]at this;rw[this];rfl
theorem Red.piv_in(h:Red p n R pv)(h':Red p n R' pv')(hs:∀i,i<R.length→Sp p n R' (R.getD i [])){i:Nat}(hi:i<R.length):∃k,k<R'.length∧pv' k=pv i:=by
 obtain⟨g1,g2,g3⟩:=h.row_lead hp hi;obtain⟨k,hk,g4,g5⟩:=h'.lead (hs i hi) g1;refine⟨k,hk,?_⟩;rcases G6 (pv' k) (pv i)with h1|h1|h1
 ·exact absurd (g2 _ h1) g5
 ·exact h1
 ·exact absurd (g4 _ h1) g3
theorem Red.piv_eq(h:Red p n R pv)(h':Red p n R' pv')(hs:jC p n R R'):∀i,(i<R.length↔i<R'.length)∧(i<R.length→pv i=pv' i):=by
 intro i
 induction i using Nat.strongRecOn with
 |_ i ih=>
  have a:i<R.length→i<R'.length∧pv' i≤pv i:=fun hi=>by
   obtain⟨k,hk,e⟩:=h.piv_in hp h' hs.1 hi;have hki:i≤k:=by
    refine Classical.byContradiction fun hn=>?_
    have h1:=(ih k (by omega)).2 (by omega);have h2:=h.mono k i (by omega) hi;omega
   refine⟨by omega,?_⟩;rcases Jk i k with h3|h3
   ·have:=h'.mono i k h3 hk;omega
   ·have hik:i=k:=by omega
    subst hik;omega
  have b:i<R'.length→i<R.length∧pv i≤pv' i:=fun hi=>by
   obtain⟨k,hk,e⟩:=h'.piv_in hp h hs.2 hi;have hki:i≤k:=by
    refine Classical.byContradiction fun hn=>?_
    have h1:=(ih k (by omega)).2 hk;have h2:=h'.mono k i (by omega) hi;omega
   refine⟨by omega,?_⟩;rcases Jk i k with h3|h3
   ·have:=h.mono i k h3 hk;omega
   ·have hik:i=k:=by omega
    subst hik;omega
  exact⟨⟨fun hi=>(a hi).1,fun hi=>(b hi).1⟩,fun hi=>by have:=(a hi).2;have:=(b (a hi).1).2;omega⟩
theorem Red.unique(h:Red p n R pv)(h':Red p n R' pv')(hs:jC p n R R'):R=R':=by
 have hpe:=h.piv_eq hp h' hs;have hl:R.length=R'.length:=by
  rcases G6 R.length R'.length with g|g|g
  ·have:=(hpe R.length).1.2 g;omega
  ·exact g
  ·have:=(hpe R'.length).1.1 g;omega
 refine zHz (D:=R.length) rfl hl.symm fun i hi=>?_
 have hi':i<R'.length:=by omega
 have r1:=h.row i hi;have r2:=h'.row i hi';rw[vR r1.1,vR r2.1];refine zX fun j hj=>?_
 have hx:=h'.expand (hs.1 i hi) j hj;rw[xG (g:=fun k=>(if k=i then 1 else 0)*ent R' k j) (fun k hk=>by
  congr 1
  have e:=(hpe k).2 (by omega)
  by_cases hki:k=i
  ·subst hki;rw[if_pos rfl,←e];exact h.one k hi
  ·rw[if_neg hki,←e];exact h.off k i (by omega) hi (Ne.symm hki)),kW (k:=i) hi' (fun k _ hk=>by simp[hk])]at hx
 simp only[if_true,Ja5,ent]at hx;have a1:=r1.2 j hj;have a2:=r2.2 j hj;rw[Ke a1.1 (by omega),Ke a2.1 (by omega)]at hx;exact hx
end
end Go.Pl

namespace Go.Pl
open Go Go.Ab Go.Wk Go.Pc
def mkR(m:Nat)(F:Nat→List Int):Mx:=(Jl m).map F
theorem sF{m:Nat}{F:Nat→List Int}:(mkR m F).length=m:=by simp[mkR]
theorem kB{m:Nat}{F:Nat→List Int}{i:Nat}(h:i<m):(mkR m F).getD i []=F i:=by simp[mkR,J2,h]
theorem zJG{m:Nat}{F:Nat→List Int}{i:Nat}(h:i<m):ixO (mkR m F) (i:Int)=some (F i):=by rw[xD [] (by rw[sF];exact h),kB h]
theorem sV{m:Nat}{F G:Nat→List Int}(h:∀i,i<m→F i=G i):mkR m F=mkR m G:=by simp only[mkR];exact Qm fun i hi=>h i (Kq.1 hi)
theorem zWB{R:Mx}{m:Nat}(h:R.length=m):R=mkR m (fun i=>R.getD i []):=zHz (D:=m) h sF fun i hi=>by rw[kB hi]
theorem zGq{m:Nat}{F:Nat→List Int}{i:Nat}{a:List Int}:(mkR m F).set i a=mkR m (fun k=>if k=i then a else F k):=by
 apply La;intro k
 by_cases hk:k<m
 ·by_cases h:i=k
  ·subst h;simp[mkR,hk]
  ·rw[Jad h];simp[mkR,hk,Ne.symm h]
 ·rw[Jz (by simp[mkR];omega),Jz (by simp[mkR];omega)]
theorem zE6{m:Nat}{F:Nat→List Int}{i j:Nat}(h:i<m):ent (mkR m F) i j=at0 (F i) j:=by simp only[ent,kB h]
theorem zR2{s:Nat→Int×Int×Int×Int}(n:Nat){r:Int×Int}(h:∀i,i<n→zPQ (s i)=some (.inl (s (i+1))))(he:zPQ (s n)=some (.inr r)){p q:Int}(hq:zKk r.2 p=some q)(h1:r.1=1)(hs:s 0=(p,(s 0).2.1,0,1)):
  f_M (s 0).2.1 p=some (q,true):=by
 unfold f_M;rw[←hs,zZ s n h he,bs,hq,bs,h1];rfl
def zR3:List (Int×Int×Int×Int)→Nat→Int×Int×Int×Int:=fun l i=>l.getD i (0,0,0,0)
theorem tE(l:List (Int×Int×Int×Int))(n:Nat){r:Int×Int}(h:∀i,i<n→zPQ (zR3 l i)=some (.inl (zR3 l (i+1))))(he:zPQ (zR3 l n)=some (.inr r)){p q x:Int}(hq:zKk r.2 p=some q)(h1:r.1=1)(hs:zR3 l 0=(p,x,0,1)):
  f_M x p=some (q,true):=by
 have:=zR2 (s:=zR3 l) n h he hq h1 (by rw[hs]);rw[hs]at this;exact this
theorem lt1{P:Nat→Prop}(h0:P 0):∀i,i<1→P i:=fun i hi=>by rw[show i=0 from by omega];exact h0
theorem lt2{P:Nat→Prop}(h0:P 0)(h1:P 1):∀i,i<2→P i:=fun i hi=>by match i,hi with|0,_=>exact h0|1,_=>exact h1
theorem lt3{P:Nat→Prop}(h0:P 0)(h1:P 1)(h2:P 2):∀i,i<3→P i:=fun i hi=>by match i,hi with|0,_=>exact h0|1,_=>exact h1|2,_=>exact h2
theorem zE7{p x:Int}(hp:Prime p)(h0:1≤x)(h1:x≤p-1):∃r,f_M x p=some (r,true)∧0≤r∧r≤p-1∧(x*r)%p=1:=by
 have c:(p=2∧x=1)∨(p=3∧(x=1∨x=2))∨(p=5∧(x=1∨x=2∨x=3∨x=4))∨(p=7∧(x=1∨x=2∨x=3∨x=4∨x=5∨x=6)):=by unfold Prime at hp;omega
 rcases c with⟨rfl,rfl⟩|⟨rfl,rfl|rfl⟩|⟨rfl,rfl|rfl|rfl|rfl⟩|⟨rfl,rfl|rfl|rfl|rfl|rfl|rfl⟩
 ·exact⟨1,tE [(2,1,0,1),(1,0,1,-2)] 1 (lt1 (by decide+kernel)) (r:=(1,1)) (by decide+kernel) (by decide+kernel) rfl rfl,by decide,by decide,by decide⟩
 ·exact⟨1,tE [(3,1,0,1),(1,0,1,-3)] 1 (lt1 (by decide+kernel)) (r:=(1,1)) (by decide+kernel) (by decide+kernel) rfl rfl,by decide,by decide,by decide⟩
 ·exact⟨2,tE [(3,2,0,1),(2,1,1,-1),(1,0,-1,3)] 2 (lt2 (by decide+kernel) (by decide+kernel)) (r:=(1,-1)) (by decide+kernel) (by decide+kernel) rfl rfl,by decide,by decide,by decide⟩
 ·exact⟨1,tE [(5,1,0,1),(1,0,1,-5)] 1 (lt1 (by decide+kernel)) (r:=(1,1)) (by decide+kernel) (by decide+kernel) rfl rfl,by decide,by decide,by decide⟩
 ·exact⟨3,tE [(5,2,0,1),(2,1,1,-2),(1,0,-2,5)] 2 (lt2 (by decide+kernel) (by decide+kernel)) (r:=(1,-2)) (by decide+kernel) (by decide+kernel) rfl rfl,by decide,by decide,by decide⟩
 ·exact⟨2,tE [(5,3,0,1),(3,2,1,-1),(2,1,-1,2),(1,0,2,-5)] 3 (lt3 (by decide+kernel) (by decide+kernel) (by decide+kernel)) (r:=(1,2)) (by decide+kernel) (by decide+kernel) rfl rfl,by decide,by decide,by decide⟩
 ·exact⟨4,tE [(5,4,0,1),(4,1,1,-1),(1,0,-1,5)] 2 (lt2 (by decide+kernel) (by decide+kernel)) (r:=(1,-1)) (by decide+kernel) (by decide+kernel) rfl rfl,by decide,by decide,by decide⟩
 ·exact⟨1,tE [(7,1,0,1),(1,0,1,-7)] 1 (lt1 (by decide+kernel)) (r:=(1,1)) (by decide+kernel) (by decide+kernel) rfl rfl,by decide,by decide,by decide⟩
 ·exact⟨4,tE [(7,2,0,1),(2,1,1,-3),(1,0,-3,7)] 2 (lt2 (by decide+kernel) (by decide+kernel)) (r:=(1,-3)) (by decide+kernel) (by decide+kernel) rfl rfl,by decide,by decide,by decide⟩
 ·exact⟨5,tE [(7,3,0,1),(3,1,1,-2),(1,0,-2,7)] 2 (lt2 (by decide+kernel) (by decide+kernel)) (r:=(1,-2)) (by decide+kernel) (by decide+kernel) rfl rfl,by decide,by decide,by decide⟩
 ·exact⟨2,tE [(7,4,0,1),(4,3,1,-1),(3,1,-1,2),(1,0,2,-7)] 3 (lt3 (by decide+kernel) (by decide+kernel) (by decide+kernel)) (r:=(1,2)) (by decide+kernel) (by decide+kernel) rfl rfl,by decide,by decide,by decide⟩
 ·exact⟨3,tE [(7,5,0,1),(5,2,1,-1),(2,1,-1,3),(1,0,3,-7)] 3 (lt3 (by decide+kernel) (by decide+kernel) (by decide+kernel)) (r:=(1,3)) (by decide+kernel) (by decide+kernel) rfl rfl,by decide,by decide,by decide⟩
 ·exact⟨6,tE [(7,6,0,1),(6,1,1,-1),(1,0,-1,7)] 2 (lt2 (by decide+kernel) (by decide+kernel)) (r:=(1,-1)) (by decide+kernel) (by decide+kernel) rfl rfl,by decide,by decide,by decide⟩
end Go.Pl

namespace Go.Pl
open Go Go.Ab Go.Wk Go.Pc
structure zPv (p:Int) (n m:Nat) (rows:Mx) (c:Nat) (M:Mx) (d:Nat) (pv:Nat→Nat):Prop where
 len:M.length=m
 row:∀i,i<m→Row p n (M.getD i [])
 dm:d≤m
 lt:∀i,i<d→pv i<c
 one:∀i,i<d→ent M i (pv i)=1
 low:∀i,i<d→ ∀j,j<pv i→ent M i j=0
 off:∀i k,i<d→k<m→k≠i→ent M k (pv i)=0
 mono:∀i j,i<j→j<d→pv i<pv j
 zero:∀k,d≤k→k<m→ ∀j,j<c→ent M k j=0
 sp:jC p n M rows
theorem zBE{p:Int}{n m:Nat}{F:Nat→List Int}{i:Nat}(h:i<m):Sp p n (mkR m F) (F i):=by have:=qC (p:=p) (n:=n) (R:=mkR m F) (i:=i) (by rw[sF];exact h);rw[kB h]at this;exact this
theorem zR4(a e r p:Int):a%p=((a+(0-e)*r)%p+e*r)%p:=by rw[Kl,Kc,←Kl,show a+(0-e)*r+e*r=a from by rw[Ja4,U9];omega]
section
variable {p:Int} (hp:Prime p) {n m:Nat}{rows:Mx}{c:Nat}{M:Mx}{d:Nat}{pv:Nat→Nat} (h:zPv p n m rows c M d pv) (hc:c<n) (hd:d<m)
 include hp h hc hd
theorem zPv.pivot{t:Nat}(ht:d≤t)(htm:t<m)(hne:ent M t c≠0){q:Int}(hq:(ent M t c*q)%p=1):
  zPv p n m rows (c+1) (mkR m fun i=>if i=d then mkv n fun j=>(ent M t j*q)%p else tI p n (if i=t then M.getD d []else M.getD i []) (0-at0 (if i=t then M.getD d []else M.getD i []) c) (mkv n fun j=>(ent M t j*q)%p)) (d+1) (fun i=>if i=d then c else pv i):=by
 have h7:=hp.pos;have pr:∀j,j<n→at0 (mkv n fun j=>(ent M t j*q)%p) j=(ent M t j*q)%p:=fun j hj=>yG hj
 have p0:∀j,j<c→(ent M t j*q)%p=0:=fun j hj=>by rw[h.zero t ht htm j hj];simp
 have prow:Row p n (mkv n fun j=>(ent M t j*q)%p):=⟨yC _ _,fun j hj=>by have e1:=Le (ent M t j*q) (show p≠0 by omega);have e2:=Kv (ent M t j*q) (show 0<p by omega);rw[pr j hj];omega⟩
 have hG:∀i,i<m→i≠d→Row p n (if i=t then M.getD d []else M.getD i []):=fun i hi _=>by
  split
  ·exact h.row d hd
  ·exact h.row i hi
 have eo:∀i j,i<m→i≠d→j<n→ent (mkR m fun i=>if i=d then mkv n fun j=>(ent M t j*q)%p else tI p n (if i=t then M.getD d []else M.getD i []) (0-at0 (if i=t then M.getD d []else M.getD i []) c) (mkv n fun j=>(ent M t j*q)%p)) i j=(at0 (if i=t then M.getD d []else M.getD i []) j+(0-at0 (if i=t then M.getD d []else M.getD i []) c)*((ent M t j*q)%p))%p:=fun i j hi hne' hj=>by rw[zE6 hi,if_neg hne',tI,yG hj,pr j hj]
 have el:∀i j,i<m→i≠d→j<c→ent (mkR m fun i=>if i=d then mkv n fun j=>(ent M t j*q)%p else tI p n (if i=t then M.getD d []else M.getD i []) (0-at0 (if i=t then M.getD d []else M.getD i []) c) (mkv n fun j=>(ent M t j*q)%p)) i j=at0 (if i=t then M.getD d []else M.getD i []) j:=fun i j hi hne' hj=>by rw[eo i j hi hne' (by omega),p0 j hj,Ld,Ha];have:=(hG i hi hne').2 j (by omega);exact Ke this.1 (by omega)
 have ed:∀j,j<n→ent (mkR m fun i=>if i=d then mkv n fun j=>(ent M t j*q)%p else tI p n (if i=t then M.getD d []else M.getD i []) (0-at0 (if i=t then M.getD d []else M.getD i []) c) (mkv n fun j=>(ent M t j*q)%p)) d j=(ent M t j*q)%p:=fun j hj=>by rw[zE6 hd,if_pos rfl,pr j hj]
 have ec:∀i,i<m→i≠d→ent (mkR m fun i=>if i=d then mkv n fun j=>(ent M t j*q)%p else tI p n (if i=t then M.getD d []else M.getD i []) (0-at0 (if i=t then M.getD d []else M.getD i []) c) (mkv n fun j=>(ent M t j*q)%p)) i c=0:=fun i hi hne'=>by rw[eo i c hi hne' hc,hq,Ho];rw[show at0 (if i=t then M.getD d []else M.getD i []) c+(0-at0 (if i=t then M.getD d []else M.getD i []) c)=0 from by omega];simp
 have hlow:∀i,i<d→(if i=t then M.getD d []else M.getD i [])=M.getD i []:=fun i hi=>by rw[if_neg (by omega)]
 have hzr:∀i,d≤i→i<m→ ∀j,j<c→at0 (if i=t then M.getD d []else M.getD i []) j=0:=fun i hi hi2 j hj=>by
  split
  ·exact h.zero d (Jp _) hd j hj
  ·exact h.zero i hi hi2 j hj
 refine⟨sF,fun i hi=>?_,by omega,fun i hi=>?_,fun i hi=>?_,fun i hi j hj=>?_,fun i k hi hk hne'=>?_,fun i j hij hj=>?_,fun k hk hk2 j hj=>?_,?_⟩
 ·rw[kB hi]
  split
  ·exact prow
  ·exact zAw hp
 ·by_cases hid:i=d
  ·rw[if_pos hid];omega
  ·rw[if_neg hid];have:=h.lt i (by omega);omega
 ·by_cases hid:i=d
  ·subst hid;rw[if_pos rfl,ed c hc,hq]
  ·have h1:=h.lt i (by omega)
   rw[if_neg hid,el i _ (by omega) hid h1,hlow i (by omega)];exact h.one i (by omega)
 ·by_cases hid:i=d
  ·subst hid
   rw[if_pos rfl]at hj;rw[ed j (by omega),p0 j hj]
  ·rw[if_neg hid]at hj
   have h1:=h.lt i (by omega);rw[el i j (by omega) hid (by omega),hlow i (by omega)];exact h.low i (by omega) j hj
 ·by_cases hid:i=d
  ·subst hid
   rw[if_pos rfl];exact ec k hk hne'
  ·have h1:=h.lt i (by omega)
   rw[if_neg hid]
   by_cases hkd:k=d
   ·subst hkd
    rw[ed _ (by omega),h.off i t (by omega) htm (by omega)];simp
   ·rw[el k _ hk hkd h1]
    split
    ·exact h.off i d (by omega) hd (Ne.symm hid)
    ·exact h.off i k (by omega) hk hne'
 ·by_cases hjd:j=d
  ·subst hjd
   rw[if_pos rfl,if_neg (by omega)];exact h.lt i (by omega)
  ·rw[if_neg hjd,if_neg (by omega)];exact h.mono i j hij (by omega)
 ·rcases Jk j c with hjc|hjc
  ·rw[el k j hk2 (by omega) hjc];exact hzr k (by omega) hk2 j hjc
  ·rw[show j=c from by omega];exact ec k hk2 (by omega)
 ·refine jC.trans ⟨fun i hi=>?_,fun i hi=>?_⟩ h.sp
  ·rw[sF]at hi
   rw[kB hi];have hr:Sp p n M (mkv n fun j=>(ent M t j*q)%p):=by
    refine zAP (k:=q) (zE5 (u:=[]) fun j _=>by simp[at0]) (qC (R:=M) (i:=t) (by rw[h.len];exact htm)) fun j hj=>?_
    rw[pr j hj,Kc,Ua];simp[at0]
   split
   ·exact hr
   ·refine zAP (k:=0-at0 (if i=t then M.getD d []else M.getD i []) c) (v:=if i=t then M.getD d []else M.getD i []) ?_ hr fun j hj=>?_
    ·split
     ·exact qC (by rw[h.len];exact hd)
     ·exact qC (by rw[h.len];exact hi)
    ·rw[tI,yG hj,Kc]
  ·rw[h.len]at hi
   have hr:=zBE (p:=p) (n:=n) (m:=m) (F:=fun i=>if i=d then mkv n fun j=>(ent M t j*q)%p else tI p n (if i=t then M.getD d []else M.getD i []) (0-at0 (if i=t then M.getD d []else M.getD i []) c) (mkv n fun j=>(ent M t j*q)%p)) hd;simp only[if_true]at hr;have hg:∀k,k<m→k≠d→Sp p n (mkR m fun i=>if i=d then mkv n fun j=>(ent M t j*q)%p else tI p n (if i=t then M.getD d []else M.getD i []) (0-at0 (if i=t then M.getD d []else M.getD i []) c) (mkv n fun j=>(ent M t j*q)%p)) (if k=t then M.getD d []else M.getD k []):=fun k hk hkd=>by
    have h1:=zBE (p:=p) (n:=n) (m:=m) (F:=fun i=>if i=d then mkv n fun j=>(ent M t j*q)%p else tI p n (if i=t then M.getD d []else M.getD i []) (0-at0 (if i=t then M.getD d []else M.getD i []) c) (mkv n fun j=>(ent M t j*q)%p)) hk;simp only[if_neg hkd]at h1;refine zAP (k:=at0 (if k=t then M.getD d []else M.getD k []) c) h1 hr fun j hj=>?_
    rw[tI,yG hj,pr j hj];exact zR4 _ _ _ _
   by_cases hit:i=t
   ·
    subst hit;refine zAP (k:=ent M i c) (zE5 (u:=[]) fun j _=>by simp[at0]) hr fun j hj=>?_
    rw[pr j hj];have e1:(ent M i c*((ent M i j*q)%p))%p=(ent M i j*((ent M i c*q)%p))%p:=by
     rw[Jx,Kc,←Jx,Jx (ent M i j),Kc,←Jx]
     congr 1
     rw[←Hf,←Hf,Ua (ent M i c)]
    rw[show at0 ([]:List Int) j=0 from by simp[at0],Lo,e1,hq,Ho]
   ·by_cases hid:i=d
    ·subst hid
     have:=hg t htm (by omega);rw[if_pos rfl]at this;exact this
    ·have:=hg i hi hid
     rw[if_neg hit]at this;exact this
end
end Go.Pl

namespace Go.Pl
open Go Go.Ab Go.Wk Go.Pc
theorem zDQ{v:List Int}(h:v.length≤1000000):f_E v=some v:=by unfold f_E;rw[yO (by simp;omega),bs,Ji]
theorem zIi{rows:Mx}(hm:rows.length≤1000000)(hn:∀i,i<rows.length→(rows.getD i []).length≤1000000):zUA rows=some rows:=by
 unfold zUA;have:=zZ (body:=zMc rows) (r:=rows) (fun i=>(rows.take i,(i:Int))) rows.length (fun i hi=>by
  unfold zMc;simp only
  rw[xK hi,zN,xD [] hi,bs,zDQ (hn i hi),bs,yO (by simp;omega),bs,zC (by omega) (by omega),bs,cs,K8 hi,J2,J3 hi];rfl) (by
  unfold zMc;simp only
  rw[xX,zL,Hg])
 rw[show((0:Nat):Int)=0 from rfl,K6]at this;rw[this,bs]
theorem zPw{M:Mx}{d c m n:Nat}(hm:M.length=m)(hd:d≤m)(hmm:m≤1000000)(hrow:∀i,i<m→(M.getD i []).length=n)(hc:c<n):
  ∃t:Nat,d≤t∧t≤m∧zI (zIn (M,(d:Int),(c:Int))) (d:Int)=some (t:Int)∧(∀k,d≤k→k<t→ent M k c=0)∧(t<m→ent M t c≠0):=by
 have key:∀k,k≤m-d→ ∃t:Nat,m-k≤t∧t≤m∧zI (zIn (M,(d:Int),(c:Int))) ((m-k:Nat):Int)=some (t:Int)∧(∀q,m-k≤q→q<t→ent M q c=0)∧(t<m→ent M t c≠0):=by
  intro k
  induction k with
  |zero=>
   intro _;refine⟨m,by omega,Jp _,?_,fun q h1 h2=>by omega,fun h=>by omega⟩;rw[xT];unfold zIn;simp only
   rw[hm,show m-0=m from rfl,xX,zL]
  |succ k ih=>
   intro hk;obtain⟨t,h1,h2,h3,h4,h5⟩:=ih (by omega);have hlt:m-(k+1)<m:=by omega
   by_cases hz:ent M (m-(k+1)) c=0
   ·refine⟨t,by omega,h2,?_,fun q q1 q2=>?_,h5⟩
    ·rw[xT]
     have e:zIn (M,(d:Int),(c:Int)) ((m-(k+1):Nat):Int)=some (.inl ((m-k:Nat):Int)):=by
      unfold zIn;simp only
      rw[hm,xK hlt,zN,xD [] (by omega),bs,yT (by rw[hrow _ hlt];exact hc),bs,zL0 hz,zN,zC (by omega) (by omega),bs,cs,show m-(k+1)+1=m-k from by omega]
     rw[e];exact h3
    ·rcases Jk (m-(k+1)) q with g|g
     ·exact h4 q (by omega) q2
     ·rw[show q=m-(k+1)from by omega];exact hz
   ·refine⟨m-(k+1),Jp _,by omega,?_,fun q q1 q2=>by omega,fun _=>hz⟩
    rw[xT];have e:zIn (M,(d:Int),(c:Int)) ((m-(k+1):Nat):Int)=some (.inr ((m-(k+1):Nat):Int)):=by
     unfold zIn;simp only
     rw[hm,xK hlt,zN,xD [] (by omega),bs,yT (by rw[hrow _ hlt];exact hc),bs,zL1 hz,zL]
    rw[e]
 obtain⟨t,h1,h2,h3,h4,h5⟩:=key (m-d) (Jp _);rw[show m-(m-d)=d from by omega]at h1 h3 h4;exact⟨t,h1,h2,h3,h4,h5⟩
section
variable {p:Int} (hp:Prime p) {n m:Nat}{M:Mx}{d c t:Nat}
 include hp
theorem zMW{F:Nat→List Int}{q:Int}{b:Bool}(hd:d<m)(hr:Row p n (F d))(hn:n≤1000000)(hq:0≤q∧q≤p-1){v:List Int}(hv:v.length=n){s:Mx×Int×Int}(hs:s.2.1=(d:Int)):
  zI (zMd p s (q,b) v) (mkR m F,0)=some (mkR m fun i=>if i=d then mkv n fun j=>(at0 (F d) j*q)%p else F i):=by
 have h7:=hp.pos;have:=zZ (body:=zMd p s (q,b) v) (r:=mkR m fun i=>if i=d then mkv n fun j=>(at0 (F d) j*q)%p else F i) (fun k=>(mkR m fun i=>if i=d then mkv n (fun j=>if j<k then(at0 (F d) j*q)%p else at0 (F d) j)else F i,(k:Int))) n (fun k hk=>by
  have a1:=hr.2 k hk;have a2:=zBC hp (k:=q) ⟨by omega,by omega⟩ a1;have a3:=Gx a1.1 hq.1;rw[Ua]at a2;unfold zMd;simp only
  rw[hv,xK hk,zN,hs,zJG hd];simp only[bs,if_true];rw[yT (by rw[yC];exact hk),yG hk,if_neg (by omega)];simp only[bs];rw[zC (by omega) (by omega)];simp only[bs,uJ];rw[if_neg (by omega)];simp only[bs];rw[Kx a3,zC (by omega) (by omega)];simp only[bs,Je,cs];rw[zGq]
  congr 3
  refine sV fun i _=>?_
  by_cases hi:i=d
  ·rw[if_pos hi,if_pos hi,jB]
   refine zX fun j _=>?_
   by_cases hj:j=k
   ·subst hj;rw[if_pos rfl,if_pos (by omega)]
   ·rw[if_neg hj]
    by_cases hj2:j<k
    ·rw[if_pos hj2,if_pos (by omega)]
    ·rw[if_neg hj2,if_neg (by omega)]
  ·rw[if_neg hi,if_neg hi,if_neg hi]) (by
  unfold zMd;simp only
  rw[hv,xX,zL]
  congr 2
  refine sV fun i _=>?_
  split
  ·exact zX fun j hj=>by rw[if_pos hj]
  ·rfl)
 rw[show((0:Nat):Int)=0 from rfl]at this;rw[←this]
 congr 2
 refine sV fun i _=>?_
 split
 ·rename_i e;subst e
  conv=>lhs;rw[vR hr.1]
  exact zX fun j _=>by rw[if_neg (by omega)]
 ·rfl
theorem zMX{F:Nat→List Int}(hd:d<m)(hc:c<n)(hr:∀i,i<m→Row p n (F i))(hn:n≤1000000)(hm:m≤1000000){r21:Mx}(hl:r21.length=m){s:Mx×Int×Int}(hs:s.2.1=(d:Int))(hs2:s.2.2=(c:Int)):
  zI (zN0 p s r21) (mkR m F,0)=some (mkR m fun i=>if i=d then F d else tI p n (F i) (0-at0 (F i) c) (F d)):=by
 have h7:=hp.pos;have:=zZ (body:=zN0 p s r21) (r:=mkR m fun i=>if i=d then F d else tI p n (F i) (0-at0 (F i) c) (F d)) (fun k=>(mkR m fun i=>if i<k∧i≠d then tI p n (F i) (0-at0 (F i) c) (F d)else F i,(k:Int))) m (fun k hk=>by
  have a1:=(hr k hk).2 c hc;unfold zN0;simp only
  rw[hl,xK hk,zN,hs,hs2]
  by_cases hkd:k=d
  ·subst hkd
   rw[zCx rfl,zL,zC (by omega) (by omega),bs,cs]
   congr 3
   refine sV fun i _=>?_
   by_cases hi:i=k
   ·subst hi;rw[if_neg (by omega),if_neg (by omega)]
   ·by_cases hi2:i<k
    ·rw[if_pos ⟨hi2,hi⟩,if_pos ⟨by omega,hi⟩]
    ·rw[if_neg (by omega),if_neg (by omega)]
  ·rw[zBU (by omega),zN,zJG hk,zJG hd]
   simp only[bs,ne_eq,not_true_eq_false,and_false,if_false,Jc2,false_and];rw[yT (by rw[(hr k hk).1];exact hc)];simp only[bs];rw[zC (by omega) (by omega)];simp only[bs];rw[zBo hp (hr k hk) (hr d hd) (by omega) hn,bs,zC (by omega) (by omega)];simp only[bs,Je,cs];rw[zGq]
   congr 3
   refine sV fun i _=>?_
   by_cases hi:i=k
   ·subst hi;rw[if_pos rfl,if_pos ⟨by omega,hkd⟩]
   ·rw[if_neg hi]
    by_cases hi2:i<k∧ ¬i=d
    ·rw[if_pos hi2,if_pos ⟨by omega,hi2.2⟩]
    ·rw[if_neg hi2,if_neg (by omega)]) (by
  unfold zN0;simp only
  rw[hl,xX,zL]
  congr 2
  refine sV fun i hi=>?_
  by_cases hid:i=d
  ·rw[if_pos hid,if_neg (by omega),hid]
  ·rw[if_neg hid,if_pos ⟨hi,hid⟩])
 rw[show((0:Nat):Int)=0 from rfl]at this;rw[←this]
 congr 2
end
end Go.Pl

namespace Go.Pl
open Go Go.Ab Go.Wk Go.Pc
theorem Red.empty{p:Int}{n:Nat}:Red p n [] (fun _=>0):=⟨fun _ h=>by simp at h,fun _ h=>by simp at h,fun _ h=>by simp at h,fun _ h=>by simp at h,fun _ _ h=>by simp at h,fun _ _ _ h=>by simp at h⟩
theorem zPv.take{p:Int}{n m:Nat}{rows:Mx}{c:Nat}{M:Mx}{d:Nat}{pv:Nat→Nat}(h:zPv p n m rows c M d pv)(hcn:c≤n)(hz:∀k,d≤k→k<m→ ∀j,j<n→ent M k j=0):Red p n (M.take d) pv∧jC p n (M.take d) rows:=by
 have hl:(M.take d).length=d:=by rw[Ka,h.len];exact Qi h.dm
 have hg:∀i,i<d→(M.take d).getD i []=M.getD i []:=fun i hi=>by simp only[J2,H3,if_pos hi]
 have dm:=h.dm;refine⟨⟨fun i hi=>?_,fun i hi=>?_,fun i hi=>?_,fun i hi j hj=>?_,fun i k hi hk hne=>?_,fun i j hij hj=>?_⟩,jC.trans ⟨fun i hi=>?_,fun i hi=>?_⟩ h.sp⟩
 ·rw[hl]at hi;rw[hg i hi];exact h.row i (by omega)
 ·rw[hl]at hi;have:=h.lt i hi;omega
 ·rw[hl]at hi;simp only[ent,hg i hi];exact h.one i hi
 ·rw[hl]at hi;simp only[ent,hg i hi];exact h.low i hi j hj
 ·rw[hl]at hi hk;simp only[ent,hg k hk];exact h.off i k hi (by omega) hne
 ·rw[hl]at hj;exact h.mono i j hij hj
 ·rw[hl]at hi;rw[hg i hi];exact qC (by rw[h.len];omega)
 ·rw[h.len]at hi
  rcases Jk i d with g|g
  ·have:=qC (p:=p) (n:=n) (R:=M.take d) (i:=i) (by rw[hl];exact g)
   rw[hg i g]at this;exact this
  ·exact zE5 fun j hj=>by have:=hz i g hi j hj;simp only[ent]at this;rw[this];rfl
section
variable {p:Int} (hp:Prime p) {n:Nat}{rows:Mx} (hn:n≤100000) (hm:rows.length≤600000) (hr:∀i,i<rows.length→Row p n (rows.getD i []))
 include hp hn hm hr
theorem zL2:∃R pv,f_j p rows=some R∧Red p n R pv∧jC p n R rows:=by
 have h7:=hp.pos;unfold f_j;rw[zIi (by omega) (fun i hi=>by have:=(hr i hi).1;omega),bs];have main:=tC (body:=zN1 p) (s:=(rows,0,0)) (Q:=fun r=> ∃(M:Mx)(d:Nat)(pv:Nat→Nat),r=(M,(d:Int))∧d≤M.length∧Red p n (M.take d) pv∧jC p n (M.take d) rows)
  (fun i s=> ∃(M:Mx)(d:Nat)(pv:Nat→Nat),s=(M,(d:Int),(i:Int))∧zPv p n rows.length rows i M d pv∧i≤n) n (fun c s hc hI=>?_) (fun s hI=>?_) ⟨rows,0,fun _=>0,rfl,⟨rfl,hr,Kk _,fun _ h=>by omega,fun _ h=>by omega,fun _ h=>by omega,fun _ _ h=>by omega,fun _ _ _ h=>by omega,fun _ _ _ _ h=>by omega,jC.refl⟩,Kk _⟩
 ·obtain⟨r,h1,M,d,pv,rfl,hd,hR,hS⟩:=main
  rw[h1,bs];simp only
  have e:yB M 0 (d:Int)=some (M.take d):=by unfold yB;rw[if_pos ⟨by omega,by omega,by omega⟩];simp
  rw[e,bs];exact⟨_,_,rfl,hR,hS⟩
 ·
  obtain⟨M,d,pv,rfl,h,hcn⟩:=hI;have hl:=h.len;have hdm:=h.dm
  by_cases h0:rows.length=0
  ·refine .inr ⟨(M,(d:Int)),?_,M,d,pv,rfl,by omega,h.take hcn fun k hk hk2=>by omega⟩
   unfold zN1;simp only
   rw[decide_eq_false (by omega),zL]
  have e0:zN1 p (M,(d:Int),(c:Int))=cond (decide ((d:Int)<(M.length:Int))) ((zI (zIn (M,(d:Int),(c:Int))) (d:Int)).bind fun r6=>
    cond (r6==(M.length:Int)) ((rng ((c:Int)+1)).bind fun v7=>some (.inl (M,(d:Int),v7))) (
     (ixO M r6).bind fun v8=>(ixO M (d:Int)).bind fun v9=>(ixO (jH M (d:Int) r6 v8 v9) (d:Int)).bind fun v10=>(ixO v10 (c:Int)).bind fun v11=>(f_M v11 p).bind fun r12=>
     (ixO (jH M (d:Int) r6 v8 v9) (d:Int)).bind fun v13=>(zI (zMd p (M,(d:Int),(c:Int)) r12 v13) (jH M (d:Int) r6 v8 v9,0)).bind fun r21=>
     (zI (zN0 p (M,(d:Int),(c:Int)) r21) (r21,0)).bind fun r30=>(rng ((d:Int)+1)).bind fun v31=>(rng ((c:Int)+1)).bind fun v32=>some (.inl (r30,v31,v32)))) (some (.inr (M,(d:Int)))):=by
   unfold zN1;simp only
   have hx:ixO M (0:Int)=some (M.getD 0 []):=by have:=xD (v:=M) (i:=0) [] (by omega);exact this
   rw[decide_eq_true (by omega),zN,hx];simp only[bs];rw[(h.row 0 (by omega)).1,xK hc,zN]
  rcases Jk d rows.length with hd|hd
  ·obtain⟨t,t1,t2,t3,t4,t5⟩:=zPw (M:=M) (d:=d) (c:=c) (m:=rows.length) (n:=n) hl hdm (by omega) (fun i hi=>(h.row i hi).1) hc
   rw[e0,hl,xK hd,zN,t3];simp only[bs]
   by_cases htm:t=rows.length
   ·
    left;refine⟨(M,(d:Int),((c+1:Nat):Int)),?_,M,d,pv,rfl,⟨hl,h.row,hdm,fun i hi=>by have:=h.lt i hi;omega,h.one,h.low,h.off,h.mono,fun k k1 k2 j hj=>?_,h.sp⟩,by omega⟩
    ·rw[zL0 (by omega),zN,zC (by omega) (by omega),bs,cs]
    ·rcases Jk j c with g|g
     ·exact h.zero k k1 k2 j g
     ·rw[show j=c from by omega];exact t4 k k1 (by omega)
   ·have htl:t<rows.length:=by omega
    have hne:=t5 htl;have hrt:=h.row t htl;have hrc:=hrt.2 c hc;obtain⟨q,q1,q2,q3,q4⟩:=zE7 (p:=p) (x:=ent M t c) hp (by simp only[ent]at hne ⊢;omega) (by simp only[ent];omega);left;have hM:M=mkR rows.length (fun i=>M.getD i []):=zWB hl;obtain⟨F,hF⟩:∃F:Nat→List Int,∀i,F i=if i=t then M.getD d []else if i=d then M.getD t []else M.getD i []:=⟨_,fun _=>rfl⟩
    have hsw:jH M (d:Int) (t:Int) (M.getD t []) (M.getD d [])=mkR rows.length F:=by
     unfold jH;rw[Je,Je]
     conv=>lhs;rw[hM]
     rw[zGq,zGq];exact sV fun i hi=>by rw[hF,kB hd,kB htl]
    have hrow2:∀i,i<rows.length→Row p n (F i):=fun i hi=>by
     rw[hF];split
     ·exact h.row d hd
     ·split
      ·exact hrt
      ·exact h.row i hi
    have hFd:F d=M.getD t []:=by
     rw[hF]
     by_cases e:d=t
     ·rw[if_pos e,e]
     ·rw[if_neg e,if_pos rfl]
    obtain⟨G,hG⟩:∃G:Nat→List Int,∀i,G i=if i=d then mkv n fun j=>(at0 (F d) j*q)%p else F i:=⟨_,fun _=>rfl⟩
    have hGd:G d=mkv n fun j=>(ent M t j*q)%p:=by rw[hG,if_pos rfl,hFd]
    have hGo:∀i,i≠d→G i=if i=t then M.getD d []else M.getD i []:=fun i hid=>by rw[hG,if_neg hid,hF];simp only[hid,if_false]
    have hsc:zI (zMd p (M,(d:Int),(c:Int)) (q,true) (M.getD t [])) (mkR rows.length F,0)=some (mkR rows.length G):=by
     rw[zMW hp (F:=F) hd (hrow2 d hd) (by omega) ⟨q2,q3⟩ hrt.1 rfl]
     congr 1
     exact sV fun i _=>(hG i).symm
    have hF3:∀i,i<rows.length→Row p n (G i):=fun i hi=>by
     rw[hG];split
     ·refine⟨yC _ _,fun j hj=>?_⟩
      have e1:=Le (at0 (F d) j*q) (show p≠0 by omega);have e2:=Kv (at0 (F d) j*q) (show 0<p by omega);rw[yG hj];omega
     ·exact hrow2 i hi
    have hcl:=zMX hp (c:=c) (F:=G) hd hc hF3 (by omega) (by omega) (r21:=mkR rows.length G) sF (s:=(M,(d:Int),(c:Int))) rfl rfl;rw[zL1 (by omega),zL,xD [] (by omega),xD [] (by omega)];simp only[bs];rw[hsw,zJG hd,hFd];simp only[bs];rw[yT (by rw[hrt.1];exact hc)];simp only[bs];rw[show at0 (M.getD t []) c=ent M t c from rfl,q1];simp only[bs];rw[hsc];simp only[bs];rw[hcl];simp only[bs];rw[zC (by omega) (by omega),zC (by omega) (by omega)];simp only[bs,cs];have hfin:=h.pivot hp hc hd t1 htl hne q4;refine⟨_,rfl,_,d+1,fun i=>if i=d then c else pv i,rfl,?_,by omega⟩;have e3:(mkR rows.length fun i=>if i=d then G d else tI p n (G i) (0-at0 (G i) c) (G d))=(mkR rows.length fun i=>if i=d then mkv n fun j=>(ent M t j*q)%p else tI p n (if i=t then M.getD d []else M.getD i []) (0-at0 (if i=t then M.getD d []else M.getD i []) c) (mkv n fun j=>(ent M t j*q)%p)):=by
     refine sV fun i hi=>?_
     rw[hGd]
     by_cases hid:i=d
     ·rw[if_pos hid,if_pos hid]
     ·rw[if_neg hid,if_neg hid,hGo i hid]
    rw[e3];exact hfin
  ·
   refine .inr ⟨(M,(d:Int)),?_,M,d,pv,rfl,by omega,h.take hcn fun k hk hk2=>by omega⟩;rw[e0,decide_eq_false (by omega),zL]
 ·
  obtain⟨M,d,pv,rfl,h,hcn⟩:=hI;have hl:=h.len;have hdm:=h.dm;refine⟨(M,(d:Int)),?_,M,d,pv,rfl,by omega,h.take hcn fun k hk hk2 j hj=>h.zero k hk hk2 j hj⟩;unfold zN1;simp only
  by_cases h0:rows.length=0
  ·rw[decide_eq_false (by omega),zL]
  ·have hx:ixO M (0:Int)=some (M.getD 0 []):=by
    have:=xD (v:=M) (i:=0) [] (by omega);exact this
   rw[decide_eq_true (by omega),zN,hx];simp only[bs];rw[(h.row 0 (by omega)).1,xX,zL]
end
end Go.Pl

namespace Go.Pl
open Go Go.Ab Go.Wk Go.Pc
theorem zIT{v:List Int}{n:Nat}(hl:v.length=n)(hn:n≤1000000):∃k:Nat,k≤n∧f_A v=some (k:Int)∧(∀j,j<k→at0 v j=0)∧(k<n→at0 v k≠0):=by
 unfold f_A;rcases chk (body:=zIo v) n 0 (Kk _) (fun i=>at0 v i=0) (fun i=>(i:Int)) (fun i _ hi _=>by
   unfold zIo;rw[hl,xK hi,zN,yT (by omega),bs]
   by_cases h:at0 v i=0
   ·rw[zCx h,zL,zC (by omega) (by omega),bs,cs];exact .inl ⟨rfl,h⟩
   ·rw[zBU h,zN];exact .inr ⟨rfl,h⟩) (by
   unfold zIo;rw[hl,xX,zL])with⟨h1,h2⟩|⟨i,_,hi,h1,h2⟩
 ·rw[show((0:Nat):Int)=0 from rfl]at h1
  rw[h1,bs];exact⟨n,Jp _,by simp only[hl],fun j hj=>h2 j (Kk _) hj,fun h=>by omega⟩
 ·rw[show((0:Nat):Int)=0 from rfl]at h1
  rw[h1,bs];obtain⟨k,⟨hk1,hk2⟩,hmin⟩:=zBd (p:=fun k=>k<n∧at0 v k≠0) ⟨i,hi,h2⟩;have hz:∀j,j<k→at0 v j=0:=fun j hj=>Classical.byContradiction fun h=>hmin j hj ⟨by omega,h⟩
  have hki:k=i:=by
   have hloop:∀q,q≤k→zI (zIo v) ((k-q:Nat):Int)=some (.inr (k:Int)):=by
    intro q
    induction q with
    |zero=>
     intro _;rw[xT];have e:zIo v ((k-0:Nat):Int)=some (.inr (.inr (k:Int))):=by unfold zIo;rw[show k-0=k from rfl,hl,xK hk1,zN,yT (by omega),bs,zBU hk2,zN]
     rw[e]
    |succ q ih=>
     intro hq;rw[xT];have e:zIo v ((k-(q+1):Nat):Int)=some (.inl ((k-q:Nat):Int)):=by unfold zIo;rw[hl,xK (by omega),zN,yT (by omega),bs,zCx (hz _ (by omega)),zL,zC (by omega) (by omega),bs,cs,show k-(q+1)+1=k-q from by omega]
     rw[e];exact ih (by omega)
   have:=hloop k (Jp _);rw[Ku,show((0:Nat):Int)=0 from rfl,h1]at this;have:=Sum.inr.inj (Lb.inj this);omega
  exact⟨i,by omega,rfl,by rw[←hki];exact hz,fun _=>h2⟩
theorem zJH{v:List Int}{n k:Nat}(hl:v.length=n)(hn:n≤1000000)(hk:k<n)(h0:∀j,j<k→at0 v j=0)(h1:at0 v k≠0):f_A v=some (k:Int):=by
 obtain⟨q,q1,q2,q3,q4⟩:=zIT hl hn;have:q=k:=by
  rcases G6 q k with g|g|g
  ·exact absurd (h0 q g) (q4 (by omega))
  ·exact g
  ·exact absurd (q3 k g) h1
 rw[q2,this]
theorem zR5{p x:Int}(hp:Prime p)(h0:1≤x)(h1:x≤p-1):∃r,zUB x p=some r∧0≤r∧r≤p-1∧(x*r)%p=1:=by
 have h7:=hp.pos;have hx:∃k:Nat,1≤k∧(k:Int)<p∧(x*(k:Int))%p=1:=by
  obtain⟨r,_,r1,r2,r3⟩:=zE7 hp h0 h1;refine⟨r.toNat,?_,by omega,by rw[Jd8 r1];exact r3⟩;rcases Int.lt_or_eq_of_le r1 with g|g
  ·omega
  ·rw[←g]at r3;simp at r3
 obtain⟨k,⟨k1,k2,k3⟩,hmin⟩:=zBd hx;have body:∀i:Nat,1≤i→(i:Int)<p→zMe x p (i:Int)=cond ((x*(i:Int))%p==1) (some (.inr (.inr (i:Int)))) (some (.inl ((i+1:Nat):Int))):=fun i hi hip=>by
  have a3:=Gx (show 0≤x by omega) (show 0≤(i:Int)by omega);have a4:=zBC hp (k:=(i:Int)) ⟨by omega,by omega⟩ (b:=x) ⟨by omega,h1⟩;rw[Ua]at a4;unfold zMe;rw[decide_eq_true hip,zN,zLz hp (by omega) (by omega),bs,Ke (by omega) (by omega),zC (by omega) (by omega),bs];unfold uJ;rw[if_neg (by omega),bs,Kx a3]
  by_cases hh:(x*(i:Int))%p=1
  ·rw[zL0 hh,zN,zN]
  ·rw[zL1 hh,zL,zL,zC (by omega) (by omega),bs,cs]
 have hloop:∀q,q+1≤k→zI (zMe x p) ((k-q:Nat):Int)=some (.inr (k:Int)):=by
  intro q
  induction q with
  |zero=>
   intro _;rw[xT,show k-0=k from rfl,body k k1 k2,zL0 k3,zN]
  |succ q ih=>
   intro hq;have hne:(x*((k-(q+1):Nat):Int))%p≠1:=fun h=>hmin (k-(q+1)) (by omega) ⟨by omega,by omega,h⟩
   rw[xT,body _ (by omega) (by omega),zL1 hne,zL,show k-(q+1)+1=k-q from by omega];exact ih (by omega)
 have:=hloop (k-1) (by omega);rw[show k-(k-1)=1 from by omega,show((1:Nat):Int)=1 from rfl]at this;refine⟨(k:Int),?_,by omega,by omega,k3⟩;unfold zUB;rw[this,bs]
section
variable {p:Int} (hp:Prime p) {n:Nat} (hn:n≤100000)
 include hp hn
theorem zWC{r s:List Int}(hr:Row p n r):tI p n r p s=r:=by
 have _:=hp;have _:=hn
 conv=>rhs;rw[vR hr.1]
 refine zX fun j hj=>?_
 have:=hr.2 j hj;rw[Lz];exact Ke this.1 (by omega)
def cl(p:Int)(n:Nat)(out:Mx)(pv:Nat→Nat)(v:List Int):Nat→List Int
 |0=>v
 |i+1=>tI p n (cl p n out pv v i) (p-at0 (cl p n out pv v i) (pv i)) (out.getD i [])
variable {out:Mx}{pv:Nat→Nat} (h:Red p n out pv) {v:List Int} (hv:Row p n v)
 include h hv
theorem zJI:∀i,Row p n (cl p n out pv v i):=by
 have _:=hn;have _:=h;intro i;cases i with
 |zero=>exact hv
 |succ i=>exact zAw hp
theorem zWD:∀i,i≤out.length→ ∀k,k<i→at0 (cl p n out pv v i) (pv k)=0:=by
 have _:=hn;have _:=hv;have h7:=hp.pos;intro i
 induction i with
 |zero=>intro _ k hk;omega
 |succ i ih=>
  intro hi k hk;have hlt:=h.lt k (by omega);rw[cl,tI,yG hlt];rcases Jk k i with g|g
  ·have h1:=ih (by omega) k g
   have h2:=h.off k i (by omega) (by omega) (by omega);simp only[ent]at h2;rw[h1,h2];simp
  ·have hki:k=i:=by omega
   subst hki;have h2:=h.one k (by omega);simp only[ent]at h2;rw[h2,Ho,show at0 (cl p n out pv v k) (pv k)+(p-at0 (cl p n out pv v k) (pv k))=p from by omega,Int.emod_self]
theorem zUc:∀i,i≤out.length→ ∃cf:Nat→Int,∀j,j<n→at0 (cl p n out pv v i) j%p=(at0 v j+S out.length fun k=>cf k*ent out k j)%p:=by
 have _:=hp;have _:=h;have _:=hv;have _:=hn;intro i
 induction i with
 |zero=>intro _;exact⟨fun _=>0,fun j _=>by rw[xG (g:=fun _=>0) (fun i _=>by simp),qB,Ha];rfl⟩
 |succ i ih=>
  intro hi;obtain⟨cf,hcf⟩:=ih (by omega);refine⟨fun k=>cf k+(if k=i then p-at0 (cl p n out pv v i) (pv i)else 0),fun j hj=>?_⟩;have e1:(S out.length fun k=>(cf k+(if k=i then p-at0 (cl p n out pv v i) (pv i)else 0))*ent out k j)=(S out.length fun k=>cf k*ent out k j)+(p-at0 (cl p n out pv v i) (pv i))*ent out i j:=by rw[xG (g:=fun k=>cf k*ent out k j+(if k=i then p-at0 (cl p n out pv v i) (pv i)else 0)*ent out k j) (fun k _=>by rw[Qf]),zC5,kW (f:=fun k=>(if k=i then p-at0 (cl p n out pv v i) (pv i)else 0)*ent out k j) (k:=i) (by omega) (fun k _ hk=>by simp[hk])];simp
  rw[e1,cl,tI,yG hj,Kc,←Int.add_assoc,Kl,hcf j hj,←Kl]
theorem zH4(hm:out.length≤100000):f_T p out v=some (cl p n out pv v out.length):=by
 have h7:=hp.pos;unfold f_T;rw[qJ (by rw[hv.1];omega),bs];have:=zZ (body:=zTh p out) (r:=cl p n out pv v out.length) (fun i=>(cl p n out pv v i,(i:Int))) out.length (fun i hi=>by
  have hr:=zJI hp hn h hv i;have ho:=h.row i hi;have hlt:=h.lt i hi;have hone:=h.one i hi;have hlow:=h.low i hi;simp only[ent]at hone hlow;have he:=hr.2 (pv i) hlt;unfold zTh;simp only
  rw[xK hi,zN,xD [] hi,bs,zJH ho.1 (by omega) hlt hlow (by rw[hone];decide),bs,hr.1,xK hlt,zN,yT (by rw[hr.1];exact hlt),bs]
  by_cases hz:at0 (cl p n out pv v i) (pv i)=0
  ·rw[zCx hz,zL,zC (by omega) (by omega),bs,cs,cl,hz,Jco,zWC hp hn hr]
  ·rw[zBU hz,zN,bs,zC (by omega) (by omega),bs,bs,tM hp hr ho ⟨by omega,by omega⟩ (by omega),bs,zC (by omega) (by omega),bs,cs]
   rfl) (by
  unfold zTh;simp only
  rw[xX,zL])
 rw[show((0:Nat):Int)=0 from rfl]at this;simp only[cl]at this;rw[this,bs]
end
end Go.Pl

namespace Go.Pl
open Go Go.Ab Go.Wk Go.Pc
section
variable {p:Int} (hp:Prime p) {n:Nat}{out:Mx}{pv:Nat→Nat} (h:Red p n out pv) {u:List Int}{k q:Nat} (hu:Row p n u) (hk:k<n) (u1:at0 u k=1) (ul:∀j,j<k→at0 u j=0) (up:∀i,i<out.length→at0 u (pv i)=0) (hq:q≤out.length) (q1:∀i,i<q→pv i<k) (q2:∀i,q≤i→i<out.length→k<pv i)
def oth(p:Int)(n:Nat)(out:Mx)(u:List Int)(k i:Nat):List Int:=tI p n (out.getD i []) (p-at0 (out.getD i []) k) u
def sK(p:Int)(n:Nat)(out:Mx)(u:List Int)(k q i:Nat):List Int:=if i<q then oth p n out u k i else if i=q then u else oth p n out u k (i-1)
def zUd(pv:Nat→Nat)(k q i:Nat):Nat:=if i<q then pv i else if i=q then k else pv (i-1)
 include hp h hu hk u1 ul up hq q1 q2
theorem zMY{i j:Nat}(hj:j<n):at0 (oth p n out u k i) j=(at0 (out.getD i []) j-at0 (out.getD i []) k*at0 u j)%p:=by have _:=hp;have _:=h;have _:=hu;have _:=hk;have _:=u1;have _:=ul;have _:=up;have _:=hq;have _:=q1;have _:=q2;rw[oth,tI,yG hj,show at0 (out.getD i []) j+(p-at0 (out.getD i []) k)*at0 u j=at0 (out.getD i []) j-at0 (out.getD i []) k*at0 u j+p*at0 u j from by rw[Ja4];omega,Lz]
theorem zE8{i j:Nat}(hi:i<out.length)(hj:j<n)(hz:at0 (out.getD i []) k=0∨at0 u j=0):at0 (oth p n out u k i) j=ent out i j:=by
 rw[zMY hp h hu hk u1 ul up hq q1 q2 hj];have:=(h.row i hi).2 j hj;have e:at0 (out.getD i []) k*at0 u j=0:=by rcases hz with g|g<;>rw[g]<;>simp
 rw[e,Jco];exact Ke this.1 (by omega)
theorem zYT{i:Nat}:at0 (oth p n out u k i) k=0:=by rw[zMY hp h hu hk u1 ul up hq q1 q2 hk,u1,Ho,Int.sub_self];rfl
theorem zUe{i j:Nat}(hi:i<out.length)(hj:j<pv i)(hne:pv i≠k):at0 (oth p n out u k i) j=0:=by
 have hlt:=h.lt i hi;rcases Jk (pv i) k with g|g
 ·rw[zE8 hp h hu hk u1 ul up hq q1 q2 hi (by omega) (.inr (ul j (by omega)))];exact h.low i hi j hj
 ·have:=h.low i hi k (by omega)
  rw[zE8 hp h hu hk u1 ul up hq q1 q2 hi (by omega) (.inl this)];exact h.low i hi j hj
theorem zYU{i:Nat}(hi:i<out.length):pv i≠k:=by have _:=h;have _:=q1;have _:=q2;have _:=hp;have _:=hu;have _:=hk;have _:=ul;have _:=hq;intro e;have:=up i hi;rw[e,u1]at this;cases this
theorem zIU{i:Nat}(hi:i<out.length+1):(i=q∧sK p n out u k q i=u∧zUd pv k q i=k)∨ ∃a,a<out.length∧(i<q∧a=i∨q<i∧i=a+1)∧sK p n out u k q i=oth p n out u k a∧zUd pv k q i=pv a:=by
 have _:=hp;have _:=h;have _:=hu;have _:=hk;have _:=u1;have _:=ul;have _:=up;have _:=q1;have _:=q2;unfold sK zUd;rcases G6 i q with g|g|g
 ·exact .inr ⟨i,by omega,.inl ⟨g,rfl⟩,by rw[if_pos g],by rw[if_pos g]⟩
 ·exact .inl ⟨g,by rw[if_neg (by omega),if_pos g],by rw[if_neg (by omega),if_pos g]⟩
 ·exact .inr ⟨i-1,by omega,.inr ⟨g,by omega⟩,by rw[if_neg (by omega),if_neg (by omega)],by rw[if_neg (by omega),if_neg (by omega)]⟩
theorem zMZ:Red p n (mkR (out.length+1) (sK p n out u k q)) (zUd pv k q):=by
 have nc:=fun i hi=>zIU hp h hu hk u1 ul up hq q1 q2 (i:=i) hi
 have pn:=fun i hi=>zYU hp h hu hk u1 ul up hq q1 q2 (i:=i) hi
 refine⟨fun i hi=>?_,fun i hi=>?_,fun i hi=>?_,fun i hi j hj=>?_,fun i j hi hj hne=>?_,fun i j hij hj=>?_⟩<;>rw[sF]at*
 ·rw[kB hi]
  rcases nc i hi with⟨_,e,_⟩|⟨a,_,_,e,_⟩<;>rw[e]
  ·exact hu
  ·exact zAw hp
 ·rcases nc i hi with⟨_,_,e⟩|⟨a,ha,_,_,e⟩<;>rw[e]
  ·exact hk
  ·exact h.lt a ha
 ·rw[zE6 hi]
  rcases nc i hi with⟨_,e1,e2⟩|⟨a,ha,_,e1,e2⟩<;>rw[e1,e2]
  ·exact u1
  ·rw[zE8 hp h hu hk u1 ul up hq q1 q2 ha (h.lt a ha) (.inr (up a ha))];exact h.one a ha
 ·rw[zE6 hi]
  rcases nc i hi with⟨_,e1,e2⟩|⟨a,ha,_,e1,e2⟩<;>rw[e2]at hj<;>rw[e1]
  ·exact ul j hj
  ·exact zUe hp h hu hk u1 ul up hq q1 q2 ha hj (pn a ha)
 ·rw[zE6 hj]
  rcases nc i hi with⟨g1,_,e2⟩|⟨a,ha,ga,_,e2⟩<;>rw[e2]<;>rcases nc j hj with⟨g3,e3,_⟩|⟨b,hb,gb,e3,_⟩<;>rw[e3]
  ·omega
  ·exact zYT hp h hu hk u1 ul up hq q1 q2
  ·exact up a ha
  ·rw[zE8 hp h hu hk u1 ul up hq q1 q2 hb (h.lt a ha) (.inr (up a ha))]
   exact h.off a b ha hb (by omega)
 ·rcases nc i (by omega)with⟨g1,_,e2⟩|⟨a,ha,ga,_,e2⟩<;>rw[e2]<;>rcases nc j hj with⟨g3,_,e4⟩|⟨b,hb,gb,_,e4⟩<;>rw[e4]
  ·omega
  ·exact q2 b (by omega) hb
  ·exact q1 a (by omega)
  ·exact h.mono a b (by omega) hb
theorem zPx:(∀i,i<out.length+1→Sp p n (out++[u]) (sK p n out u k q i))∧(∀i,i<out.length→Sp p n (mkR (out.length+1) (sK p n out u k q)) (out.getD i []))∧Sp p n (mkR (out.length+1) (sK p n out u k q)) u:=by
 have hul:Sp p n (out++[u]) u:=by have:=qC (p:=p) (n:=n) (R:=out++[u]) (i:=out.length) (by simp);simpa[J2]using this
 have hol:∀i,i<out.length→Sp p n (out++[u]) (out.getD i []):=fun i hi=>by have:=qC (p:=p) (n:=n) (R:=out++[u]) (i:=i) (by simp;omega);simpa[J2,Jm hi]using this
 have hoth:∀i,i<out.length→Sp p n (out++[u]) (oth p n out u k i):=fun i hi=>
  zAP (k:=p-at0 (out.getD i []) k) (hol i hi) hul fun j hj=>by rw[oth,tI,yG hj,Kc]
 have hsu:Sp p n (mkR (out.length+1) (sK p n out u k q)) u:=by have:=zBE (p:=p) (n:=n) (m:=out.length+1) (F:=sK p n out u k q) (i:=q) (by omega);rw[show sK p n out u k q q=u from by unfold sK;rw[if_neg (by omega),if_pos rfl]]at this;exact this
 refine⟨fun i hi=>?_,fun i hi=>?_,hsu⟩
 ·rcases zIU hp h hu hk u1 ul up hq q1 q2 hi with⟨_,e,_⟩|⟨a,ha,_,e,_⟩<;>rw[e]
  ·exact hul
  ·exact hoth a ha
 ·have hi2:∃b,b<out.length+1∧sK p n out u k q b=oth p n out u k i:=by
   rcases Jk i q with g|g
   ·exact⟨i,by omega,by unfold sK;rw[if_pos g]⟩
   ·exact⟨i+1,by omega,by unfold sK;rw[if_neg (by omega),if_neg (by omega)];rfl⟩
  obtain⟨b,hb,e⟩:=hi2;have h1:=zBE (p:=p) (n:=n) (m:=out.length+1) (F:=sK p n out u k q) hb;rw[e]at h1;refine zAP (k:=at0 (out.getD i []) k) h1 hsu fun j hj=>?_
  rw[zMY hp h hu hk u1 ul up hq q1 q2 hj,Kl,Kc,←Kl,show at0 (out.getD i []) j-at0 (out.getD i []) k*at0 u j+at0 (out.getD i []) k*at0 u j=at0 (out.getD i []) j from by omega]
theorem zL3(hn:n≤100000)(hm:out.length≤100000){x:Int}:
  ((zI (zIp p (out,x) (k:Int) u) ([],false,0)).bind fun r32=>cond (!r32.2) ((xU r32.1 [u]).bind fun v33=>some v33) (some r32.1))=some (mkR (out.length+1) (sK p n out u k q)):=by
 have _:=u1;have _:=ul;have _:=up;have h7:=hp.pos;have ho:∀i,i<out.length→f_w p (out.getD i []) (p-at0 (out.getD i []) k) u=some (oth p n out u k i)∧ixO (out.getD i []) (k:Int)=some (at0 (out.getD i []) k)∧0≤at0 (out.getD i []) k∧at0 (out.getD i []) k≤p-1∧f_A (out.getD i [])=some (pv i:Int):=fun i hi=>by have hr:=h.row i hi;have hk2:=hr.2 k hk;have hone:=h.one i hi;have hlow:=h.low i hi;simp only[ent]at hone hlow;exact⟨by rw[tM hp hr hu ⟨by omega,by omega⟩ (by omega)];rfl,yT (by rw[hr.1];exact hk),hk2.1,hk2.2,zJH hr.1 (by omega) (h.lt i hi) hlow (by rw[hone];decide)⟩
 have hsn:∀{m:Nat}{F:Nat→List Int},mkR m F++[F m]=mkR (m+1) F:=fun{m F}=>by simp[mkR,Lq]
 have:=zZ (body:=zIp p (out,x) (k:Int) u) (r:=(if out.length≤q then(mkR out.length (sK p n out u k q),false)else(mkR (out.length+1) (sK p n out u k q),true)))
  (fun j=>if j≤q then(mkR j (sK p n out u k q),false,(j:Int))else(mkR (j+1) (sK p n out u k q),true,(j:Int))) out.length (fun j hj=>by
   obtain⟨a1,a2,a3,a4,a5⟩:=ho j hj;have hrg:rng (p-at0 (out.getD j []) k)=some (p-at0 (out.getD j []) k):=zC (by omega) (by omega);rcases G6 j q with g|g|g
   ·have hpj:=q1 j g
    rw[if_pos (by omega),if_pos (by omega)];unfold zIp;simp only
    rw[xK hj,zN,Kw,zN,xD [] hj];simp only[bs,a5];rw[decide_eq_false (by omega),zL,a2];simp only[bs,hrg,a1];rw[yO (by rw[sF];simp;omega),bs,zC (by omega) (by omega),bs,cs];have:sK p n out u k q j=oth p n out u k j:=by unfold sK;rw[if_pos g]
    rw[←this,hsn]
   ·subst g
    have hpj:=q2 j (Jp _) hj;rw[if_pos (by omega),if_neg (by omega)];unfold zIp;simp only
    rw[xK hj,zN,Kw,zN,xD [] hj];simp only[bs,a5];rw[decide_eq_true (by omega),zN,yO (by rw[sF];simp;omega),a2];simp only[bs,hrg,a1];have e1:sK p n out u k j j=u:=by unfold sK;rw[if_neg (by omega),if_pos rfl]
    have e2:sK p n out u k j (j+1)=oth p n out u k j:=by unfold sK;rw[if_neg (by omega),if_neg (by omega)];rfl
    have e3:mkR j (sK p n out u k j)++[u]=mkR (j+1) (sK p n out u k j):=by rw[←hsn,e1]
    rw[e3,yO (by rw[sF];simp;omega),bs,zC (by omega) (by omega),bs,cs,←e2,hsn]
   ·rw[if_neg (by omega),if_neg (by omega)]
    unfold zIp;simp only
    rw[xK hj,zN,Ky,zL,xD [] hj];simp only[bs,a2,hrg,a1];have e2:sK p n out u k q (j+1)=oth p n out u k j:=by unfold sK;rw[if_neg (by omega),if_neg (by omega)];rfl
    rw[yO (by rw[sF];simp;omega),bs,zC (by omega) (by omega),bs,cs,←e2,hsn]) (by
   by_cases g:out.length≤q
   ·rw[if_pos g,if_pos g]
    unfold zIp;simp only
    rw[xX,zL]
   ·rw[if_neg g,if_neg g]
    unfold zIp;simp only
    rw[xX,zL])
 rw[if_pos (Kk _),show((0:Nat):Int)=0 from rfl,show mkR 0 (sK p n out u k q)=[]from rfl]at this;rw[this,bs]
 by_cases g:out.length≤q
 ·have e1:sK p n out u k q out.length=u:=by unfold sK;rw[if_neg (by omega),if_pos (by omega)]
  rw[if_pos g];simp only
  rw[Kw,zN,yO (by rw[sF];simp;omega),bs]
  congr 1
  rw[←hsn,e1]
 ·rw[if_neg g]
  simp only
  rw[Ky,zL]
end
end Go.Pl
