/- The program's CocycleBasis returns what the reference's returns,for all arguments;no conditions. -/
import Derived.Test.YtnggaddopliclaaGreatAbB
import Derived.Test.YtnggaddopliclaaGreatWF
open List renaming replicate→J1,getD_eq_getElem?_getD→J2,getElem?_eq_getElem→J3,length_append→J5,length_cons→J7,getElem?_append_right→J8,append_nil→J9,append_assoc→Ja,getElem?_eq_some_iff→Jb,mem_cons→Jc,length_map→Jf,mem_append→Jh,length_replicate→Ji,nil_append→Jj,getElem?_append_left→Jl,cons_append→Jn,mem_map→Jo,replicate_succ→Jq,take_of_length_le→Jr,eq_of_mem_replicate→Js,map_cons→Jt,replicate_append_replicate→Ju,range→Jw,length_drop→Jx,length_take→Jy,getElem?_eq_none→Jz,length_nil→K0,getElem?_map→K1,take_succ_cons→K7,take_zero→K8,take_succ_eq_append_getElem→Ka,eq_nil_of_length_eq_zero→Kb,getElem_mem→Kd,mem_range→Kk,getElem?_drop→Kq,set_cons_zero→Ku,getElem?_append→Ky,getElem?_replicate→Kz,range'→L6,ext_getElem?→L7,map_append→Lh,length_range→Ll,flatMap_cons→Ln,range_eq_range'→Lq,mem_iff_getElem→Ls,getD_cons_zero→Lu,singleton_append→Lv,take_length→Lx,getElem?_take→H1,replicate_succ'→H2,drop_replicate→H3,mem_flatMap→H5,drop_eq_getElem_cons→H7,replicate_zero→Hc,flatMap_append→Hd,set_append_right→Hg,map_nil→Hk,flatten_nil→Ho,range_succ→Hy,drop_zero→G7,mem_of_mem_take→Gz,getD_cons_succ→U9,getElem?_cons_succ→Uw,suffix_cons→Ql,map_congr_left→Qq,foldl_append→Qs,flatten_append→Qt,cons→Qu,flatMap_nil→Qz,range_zero→Ja4,getElem?_cons_zero→Ja9,getElem?_set_ne→Jak,suffix_cons_iff→Jay,range_succ_eq_map→Jb6,not_mem_nil→Jb7,drop_of_length_le→Jbb,take_append_drop→Jbk,drop_length→Jbv,drop_append→Jbw,all_cons→Jbx,suffix_nil→Jc0,findSome?_cons→Jc2,foldl_nil→Jc4,getElem?_set→Jc8,range'_succ→Jdf,length→Jdh
open Bool renaming and_eq_true→J4,not_true→K9,not_false→Kn,false_and→Jcz
open Nat renaming zero_add→Je,lt_or_ge→Jk,le_refl→Jp,zero_le→Ke,sub_self→Kr,le_trans→Kv,add_assoc→Lr,min_eq_left→Gd,div_add_mod→Ge,add_zero→Gf,sub_zero→U7,lt_trichotomy→Ui,add_mul→Uu,mul_one→Qh,mul_add→Jb3,lt_irrefl→Jc6,zero_sub→Jcu,le_of_lt→Jcv,add_comm→Jcw
open Int renaming toNat_natCast→Jg,mul_emod→Jv,emod_emod→Kc,emod_eq_of_lt→Kh,add_emod→Ko,emod_lt_of_pos→Kw,mul_zero→L9,emod_nonneg→La,tmod_eq_emod_of_nonneg→Li,zero_add→Lp,mul_le_mul→Lt,add_zero→H8,mul_assoc→He,mul_one→Hl,toNat_zero→Hq,add_mul_emod_self_left→Hr,mul_comm→U8,add_emod_right→Um,zero_mul→Ux,mul_nonneg→Qi,add_mul→Qj,one_mul→Jab,mul_le_mul_of_nonneg_left→Jac,mul_add→Jad,tmod_add_mul_tdiv→Jb1,tmod_lt_of_pos→Jbm,lt_tmod_of_pos→Jbn,tmod→Jc9
open Option renaming some→L4,map_eq_some_iff→Lb,map_some→Hx,getD_some→Ug
namespace Go.Pc
abbrev Vec:=List Int
structure Lvl where
 o:Int
 w:Vec
 cs:List Vec
abbrev Pcp:=List Lvl
def zeros(n:Nat):Vec:=J1 n 0
def iter{α:Type}:Nat→(α→α)→α→α
 |0,_,x=>x
 |n+1,f,x=>iter n f (f x)
theorem vB{α:Type}(f:α→α):∀(n:Nat)(x:α),iter (n+1) f x=f (iter n f x)
 |0,_=>rfl
 |n+1,x=>by rw[iter,vB f n (f x)];rfl
theorem zE9{α:Type}(f:α→α)(a:Nat):∀(b:Nat)(x:α),iter (a+b) f x=iter a f (iter b f x)
 |0,_=>rfl
 |b+1,x=>by
  show iter (a+b) f (f x)=_;rw[zE9 f a b (f x)];rfl
def img{α:Type}(m:α→α→α):List α→Vec→α→α
 |c::cs,x::xs,acc=>img m cs xs (iter x.toNat (fun v=>m v c) acc)
 |_,_,acc=>acc
def V:Pcp→Vec→Prop
 | [],v=>v=[]
 |l::P,v=>match v with
  | []=>False
  |a::x=>(0≤a∧a<l.o)∧V P x
def mul:Pcp→Vec→Vec→Vec
 |l::P,a::x,b::y=>
  let r:=mul P (iter b.toNat (fun v=>img (mul P) l.cs v (zeros P.length)) x) y
  if a+b≥l.o then(a+b-l.o)::mul P l.w r else(a+b)::r
 |_,_,_=>[]
def Ok:Pcp→Prop
 | []=>True
 |l::P=>1<l.o∧V P l.w∧l.cs.length=P.length∧(∀c∈l.cs,V P c)∧Ok P
structure Mon {α:Type} (S:α→Prop) (m:α→α→α) (e:α):Prop where
 cl:∀{a b},S a→S b→S (m a b)
 ein:S e
 assoc:∀{a b c},S a→S b→S c→m (m a b) c=m a (m b c)
 onel:∀{a},S a→m e a=a
 oner:∀{a},S a→m a e=a
structure Grp {α:Type} (S:α→Prop) (m:α→α→α) (e:α):Prop extends Mon S m e where
 inv:∀{a},S a→ ∃b,S b∧m a b=e
theorem Grp.invl{α:Type}{S:α→Prop}{m:α→α→α}{e:α}(h:Grp S m e){a:α}(ha:S a):∃b,S b∧m a b=e∧m b a=e:=by
 obtain⟨b,hb,h1⟩:=h.inv ha;obtain⟨c,hc,h2⟩:=h.inv hb;refine⟨b,hb,h1,?_⟩;have:a=c:=by
  rw[←h.oner ha,←h2,←h.assoc ha hb hc,h1,h.onel hc]
 rw[this];exact h2
theorem Grp.cancel_l{α:Type}{S:α→Prop}{m:α→α→α}{e:α}(h:Grp S m e){a b c:α}(ha:S a)(hb:S b)(hc:S c)(hh:m a b=m a c):b=c:=by
 obtain⟨d,hd,_,h2⟩:=h.invl ha;rw[←h.onel hb,←h.onel hc,←h2,h.assoc hd ha hb,h.assoc hd ha hc,hh]
section
variable {α:Type}{S:α→Prop}{m:α→α→α}{e:α}
def pw(m:α→α→α)(e:α)(x:α)(k:Nat):α:=iter k (fun v=>m v x) e
theorem tL(h:Mon S m e){x:α}(hx:S x):∀k,S (pw m e x k)
 |0=>h.ein
 |k+1=>by rw[pw,vB];exact h.cl (tL h hx k) hx
theorem vL{f:α→α}(hf:∀a,S a→S (f a)):∀(k:Nat){x:α},S x→S (iter k f x)
 |0,_,hx=>hx
 |k+1,_,hx=>vL hf k (hf _ hx)
theorem zEA(h:Mon S m e){x a:α}(hx:S x)(ha:S a):∀k,iter k (fun v=>m v x) a=m a (pw m e x k)
 |0=>(h.oner ha).symm
 |k+1=>by
  rw[vB,zEA h hx ha k];show _=m a (iter (k+1) (fun v=>m v x) e);rw[vB];exact h.assoc ha (tL h hx k) hx
theorem zHo(h:Mon S m e){x:α}(hx:S x)(a b:Nat):pw m e x (a+b)=m (pw m e x a) (pw m e x b):=by
 rw[Jcw,pw,zE9,←zEA h hx (tL h hx a) b];rfl
theorem zRi(h:Mon S m e){x:α}(hx:S x):pw m e x 1=x:=h.onel hx
theorem zRj(h:Mon S m e){x:α}(hx:S x)(k:Nat):pw m e x (k+1)=m x (pw m e x k):=by
 rw[Jcw,zHo h hx 1 k,zRi h hx]
theorem jA(h:∀{a b},S a→S b→S (m a b)):∀(cs:List α)(x:Vec){a:α},(∀c∈cs,S c)→S a→S (img m cs x a)
 |c::cs,x::xs,_,hc,ha=>by
  simp only[img];exact jA h cs xs (fun c h=>hc c (by simp[h])) (vL (fun a ha=>h ha (hc c (by simp))) _ ha)
 | [],_,_,_,ha=>by simpa[img]using ha
 |_::_,[],_,_,ha=>by simpa[img]using ha
theorem zFx(h:Mon S m e)(cs:List α)(x:Vec){a:α}(hc:∀c∈cs,S c)(ha:S a):S (img m cs x a):=jA h.cl cs x hc ha
theorem zEB(h:Mon S m e):∀(cs:List α)(x:Vec){a:α},(∀c∈cs,S c)→S a→img m cs x a=m a (img m cs x e)
 |c::cs,x::xs,a,hc,ha=>by
  have h1:S c:=hc c (by simp);have h2:∀c∈cs,S c:=fun c h=>hc c (by simp[h])
  simp only[img];rw[zEA h h1 ha,zEB h cs xs h2 (h.cl ha (tL h h1 _)),zEA h h1 h.ein,zEB h cs xs h2 (h.cl h.ein (tL h h1 _)),h.onel (tL h h1 _),
   h.assoc ha (tL h h1 _) (zFx h cs xs h2 h.ein)]
 | [],_,a,_,ha=>by simp[img,h.oner ha]
 |_::_,[],a,_,ha=>by simp[img,h.oner ha]
theorem qK(h:Mon S m e){c:α}{cs:List α}{x:Int}{xs:Vec}(hc:S c)(hcs:∀c∈cs,S c):img m (c::cs) (x::xs) e=m (pw m e c x.toNat) (img m cs xs e):=by
 simp only[img];rw[zEB h cs xs hcs (vL (fun a ha=>h.cl ha hc) _ h.ein)];rfl
theorem sX(m:α→α→α):∀(cs:List α)(n:Nat)(a:α),img m cs (zeros n) a=a
 | [],_,_=>by simp[img]
 |_::_,0,_=>by simp[zeros,img]
 |c::cs,n+1,a=>by
  simp only[zeros,Jq,img,Hq,iter];exact sX m cs n a
theorem zHp(h:Mon S m e){g:α}(hg:S g):∀(cs ds:List α)(x:Vec),(∀c∈cs,S c)→(∀c∈ds,S c)→cs.length=ds.length→(∀(k:Nat) c d,cs[k]? =some c→ds[k]? =some d→m c g=m g d)→m (img m cs x e) g=m g (img m ds x e)
 | [],[],x,_,_,_,_=>by simp[img,h.onel hg,h.oner hg]
 |c::cs,d::ds,[],_,_,_,_=>by simp[img,h.onel hg,h.oner hg]
 |c::cs,d::ds,x::xs,hc,hd,hl,hp=>by
  have hc0:S c:=hc c (by simp);have hd0:S d:=hd d (by simp);have hcs:∀c∈cs,S c:=fun c h=>hc c (by simp[h])
  have hds:∀c∈ds,S c:=fun c h=>hd c (by simp[h])
  have key:∀k,m (pw m e c k) g=m g (pw m e d k):=by
   intro k
   induction k with
   |zero=>simp[pw,iter,h.onel hg,h.oner hg]
   |succ k ih=>
    have h0:m c g=m g d:=hp 0 c d rfl rfl;rw[pw,vB,pw,vB];show m (m (pw m e c k) c) g=m g (m (pw m e d k) d);rw[h.assoc (tL h hc0 k) hc0 hg,h0,←h.assoc (tL h hc0 k) hg hd0,ih,h.assoc hg (tL h hd0 k) hd0]
  rw[qK h hc0 hcs,qK h hd0 hds,h.assoc (tL h hc0 _) (zFx h _ _ hcs h.ein) hg,zHp h hg cs ds xs hcs hds (by simpa using hl) (fun k c d h1 h2=>hp (k+1) c d (by simpa using h1) (by simpa using h2)),
   ←h.assoc (tL h hc0 _) hg (zFx h _ _ hds h.ein),key,h.assoc hg (tL h hd0 _) (zFx h _ _ hds h.ein)]
theorem zOg{β:Type}{T:β→Prop}{n:β→β→β}{f:β}(h:Mon S m e)(h':Mon T n f)(φ:α→β)(hin:∀a,S a→T (φ a))(h1:φ e=f)(hm:∀a b,S a→S b→φ (m a b)=n (φ a) (φ b)):∀(cs:List α)(x:Vec),(∀c∈cs,S c)→φ (img m cs x e)=img n (cs.map φ) x f
 | [],_,_=>by simp[img,h1]
 |c::cs,[],_=>by simp[img,h1]
 |c::cs,x::xs,hc=>by
  have hc0:S c:=hc c (by simp);have hcs:∀c∈cs,S c:=fun c h=>hc c (by simp[h])
  have key:∀k,φ (pw m e c k)=pw n f (φ c) k:=by
   intro k
   induction k with
   |zero=>simp[pw,iter,h1]
   |succ k ih=>
    rw[pw,vB,pw,vB];show φ (m (pw m e c k) c)=n (pw n f (φ c) k) (φ c);rw[hm _ _ (tL h hc0 k) hc0,ih]
  rw[qK h hc0 hcs,Jt,qK h' (hin c hc0) (by simp only[Jo];rintro _ ⟨c,hc',rfl⟩;exact hin c (hcs c hc')),hm _ _ (tL h hc0 _) (zFx h _ _ hcs h.ein),key,zOg h h' φ hin h1 hm cs xs hcs]
end
theorem wP:∀{P:Pcp},Ok P→V P (zeros P.length)
 | [],_=>rfl
 |l::P,h=>by
  simp only[Ok]at h;simp only[J7,zeros,Jq,V];exact⟨by omega,wP h.2.2.2.2⟩
theorem xC:∀{P:Pcp},Ok P→ ∀{x y:Vec},V P x→V P y→V P (mul P x y)
 | [],_,_,_,hx,hy=>by simp[mul,V]
 |l::P,h,[],_,hx,_=>by simp[V]at hx
 |l::P,h,_::_,[],_,hy=>by simp[V]at hy
 |l::P,h,a::x,b::y,hx,hy=>by
  simp only[Ok]at h;simp only[V]at hx hy;have h1:∀v,V P v→V P (img (mul P) l.cs v (zeros P.length)):=fun v hv=>jA (xC h.2.2.2.2) l.cs v h.2.2.2.1 (wP h.2.2.2.2)
  have h2:=xC h.2.2.2.2 (vL h1 b.toNat hx.2) hy.2;simp only[mul];split
  ·exact⟨by omega,xC h.2.2.2.2 h.2.1 h2⟩
  ·exact⟨by omega,h2⟩
def Rel{α:Type}(m:α→α→α)(e:α):Pcp→List α→Prop
 | [],s=>s=[]
 |l::P,s=>match s with
  | []=>False
  |g::s=>pw m e g l.o.toNat=img m s l.w e∧(∀(k:Nat) c d,s[k]? =some c→l.cs[k]? =some d→m c g=m g (img m s d e))∧Rel m e P s
section
variable {α:Type}{S:α→Prop}{m:α→α→α}{e:α}
theorem zY6(h:Mon S m e):∀(P:Pcp)(s:List α),Ok P→(∀g∈s,S g)→Rel m e P s→ ∀x y,V P x→V P y→img m s (mul P x y) e=m (img m s x e) (img m s y e)
 | [],s,_,_,hr,x,y,hx,hy=>by
  simp only[Rel]at hr;subst hr;simp[img,h.onel h.ein]
 |l::P,[],_,_,hr,_,_,_,_=>by simp[Rel]at hr
 |l::P,g::s,_,_,_,[],_,hx,_=>by simp[V]at hx
 |l::P,g::s,_,_,_,_::_,[],_,hy=>by simp[V]at hy
 |l::P,g::s,hk,hs,hr,a::x,b::y,hx,hy=>by
  simp only[Ok]at hk;simp only[Rel]at hr;simp only[V]at hx hy;obtain⟨ho,hw,hcl,hcs,hkP⟩:=hk;obtain⟨hr1,hr2,hr3⟩:=hr;have hg:S g:=hs g (by simp);have hss:∀c∈s,S c:=fun c hc=>hs c (by simp[hc])
  have hlen:s.length=P.length:=by
   clear hr1 hr2 hx hy hw hcl hcs hs hss
   induction P generalizing s with
   |nil=>simp only[Rel]at hr3;simp[hr3]
   |cons l P ih=>
    cases s with
    |nil=>simp[Rel]at hr3
    |cons c s=>simp only[Rel]at hr3;simp only[Ok]at hkP;simp[ih s hkP.2.2.2.2 hr3.2.2]
  have ih:=zY6 h P s hkP hss hr3;have hφ:∀v,S (img m s v e):=fun v=>zFx h s v hss h.ein
  have hmP:∀{a b},V P a→V P b→V P (mul P a b):=xC hkP;have hσin:∀v,V P v→V P (img (mul P) l.cs v (zeros P.length)):=fun v hv=>jA hmP l.cs v hcs (wP hkP)
  have hσ:∀v,V P v→m (img m s v e) g=m g (img m s (img (mul P) l.cs v (zeros P.length)) e):=by
   intro v hv;have key:∀(cs:List Vec)(v:Vec)(acc:Vec),(∀c∈cs,V P c)→V P acc→img m s (img (mul P) cs v acc) e=img m (cs.map fun c=>img m s c e) v (img m s acc e):=by
    intro cs
    induction cs with
    |nil=>intro v acc _ _;simp[img]
    |cons c cs ihc=>
     intro v acc hc hacc;cases v with
     |nil=>simp[img]
     |cons z v=>
      have hc0:V P c:=hc c (by simp);have it:∀k acc,V P acc→img m s (iter k (fun v=>mul P v c) acc) e=iter k (fun v=>m v (img m s c e)) (img m s acc e):=by
       intro k
       induction k with
       |zero=>intro acc _;rfl
       |succ k ihk=>
        intro acc hacc;simp only[iter];rw[ihk _ (hmP hacc hc0),ih _ _ hacc hc0]
      simp only[img,Jt];rw[ihc v _ (fun c h=>hc c (by simp[h])) (vL (fun a ha=>hmP ha hc0) _ hacc),it _ _ hacc]
   rw[key l.cs v (zeros P.length) hcs (wP hkP),sX];refine zHp h hg s _ v hss (by simp only[Jo];rintro _ ⟨c,_,rfl⟩;exact hφ c) (by simp[hlen,hcl]) ?_;intro k c d hc hd;simp only[K1,Lb]at hd;obtain⟨d',hd',rfl⟩:=hd;exact hr2 k c d' hc hd'
  have hσk:∀k v,V P v→m (img m s v e) (pw m e g k)=m (pw m e g k) (img m s (iter k (fun v=>img (mul P) l.cs v (zeros P.length)) v) e):=by
   intro k
   induction k with
   |zero=>intro v _;simp[pw,iter,h.onel (hφ v),h.oner (hφ v)]
   |succ k ihk=>
    intro v hv;rw[zRj h hg,←h.assoc (hφ v) hg (tL h hg k),hσ v hv,h.assoc hg (hφ _) (tL h hg k),ihk _ (hσin v hv),←h.assoc hg (tL h hg k) (hφ _)];rfl
  have hpa:=tL h hg a.toNat;have hpb:=tL h hg b.toNat;have hit:V P (iter b.toNat (fun v=>img (mul P) l.cs v (zeros P.length)) x):=vL hσin _ hx.2;have hmain:m (img m (g::s) (a::x) e) (img m (g::s) (b::y) e)=m (pw m e g (a.toNat+b.toNat)) (img m s (mul P (iter b.toNat (fun v=>img (mul P) l.cs v (zeros P.length)) x) y) e):=by
   rw[qK h hg hss,qK h hg hss,h.assoc hpa (hφ x) (h.cl hpb (hφ y)),←h.assoc (hφ x) hpb (hφ y),hσk _ _ hx.2,h.assoc hpb (hφ _) (hφ y),←ih _ _ hit hy.2,←h.assoc hpa hpb (hφ _),zHo h hg]
  rw[hmain];simp only[mul];split
  ·rename_i hge
   rw[qK h hg hss,ih _ _ hw (hmP hit hy.2),←hr1,←h.assoc (tL h hg _) (tL h hg _) (hφ _),←zHo h hg]
   congr 2
   omega
  ·rw[qK h hg hss]
   congr 2
   omega
end
def xJ(n j:Nat):Vec:=(zeros n).set j 1
def sig(P:Pcp)(l:Lvl)(v:Vec):Vec:=img (mul P) l.cs v (zeros P.length)
def wR:Pcp→Prop
 | []=>True
 |l::P=>wR P∧Rel (mul P) (zeros P.length) P l.cs∧sig P l l.w=l.w∧ ∀j,j<P.length→mul P l.w (iter l.o.toNat (sig P l) (xJ P.length j))=mul P (xJ P.length j) l.w
theorem zDa(n:Nat):xJ (n+1) 0=1::zeros n:=rfl
theorem zFy(n j:Nat):xJ (n+1) (j+1)=0::xJ n j:=rfl
def wL(n:Nat):List Vec:=(Jw n).map (xJ n)
theorem zM3(n:Nat):wL (n+1)=(1::zeros n)::(wL n).map (0::·):=by
 simp only[wL,Jb6,Jt,List.map_map,zDa]
 congr 1
theorem zCz:∀{P:Pcp},Ok P→ ∀{j:Nat},j<P.length→V P (xJ P.length j)
 | [],_,_,hj=>by simp at hj
 |l::P,h,0,_=>by
  simp only[Ok]at h;rw[J7,zDa];simp only[V];exact⟨by omega,wP h.2.2.2.2⟩
 |l::P,h,j+1,hj=>by
  simp only[Ok]at h;rw[J7,zFy];simp only[V];exact⟨by omega,zCz h.2.2.2.2 (by simpa using hj)⟩
theorem zC0{l:Lvl}{P:Pcp}(h:Ok (l::P)){v:Vec}(_hv:V P v):V P (sig P l v):=by
 simp only[Ok]at h;exact jA (xC h.2.2.2.2) l.cs v h.2.2.2.1 (wP h.2.2.2.2)
theorem yV(l:Lvl)(P:Pcp)(a b:Int)(x y:Vec):mul (l::P) (a::x) (b::y)=if a+b≥l.o then(a+b-l.o)::mul P l.w (mul P (iter b.toNat (sig P l) x) y)else(a+b)::mul P (iter b.toNat (sig P l) x) y:=rfl
theorem zPn{n k:Nat}{c:Vec}(h:(wL n)[k]? =some c):k<n∧c=xJ n k:=by
 simp only[wL,K1,Lb]at h;obtain⟨j,hj,rfl⟩:=h;obtain⟨hk,rfl⟩:=Jb.1 hj;simp at hk;exact⟨hk,by simp⟩
theorem normal:∀(P:Pcp),Ok P→(∀Q,Q<:+P→Mon (V Q) (mul Q) (zeros Q.length))→ ∀x,V P x→img (mul P) (wL P.length) x (zeros P.length)=x
 | [],_,_,x,hx=>by simp only[V]at hx;subst hx;simp[wL,img,zeros]
 |l::P,_,_,[],hx=>by simp[V]at hx
 |l::P,h,hM,a::x,hx=>by
  have hMl:=hM (l::P) (List.suffix_refl _);have hMP:=hM P (Ql _ _);have h':=h;simp only[Ok]at h;simp only[V]at hx;rw[J7,zM3];have hz:V P (zeros P.length):=wP h.2.2.2.2;have hu0:V (l::P) (1::zeros P.length):=by simp only[V];exact⟨by omega,hz⟩
  have hus:∀c∈(wL P.length).map (0::·),V (l::P) c:=by
   intro c hc;simp only[wL,List.map_map,Jo,Kk]at hc;obtain⟨j,hj,rfl⟩:=hc;simp only[Function.comp,V];exact⟨by omega,zCz h.2.2.2.2 hj⟩
  have hzl:V (l::P) (zeros (P.length+1)):=wP (P:=l::P) h';rw[show zeros (P.length+1)=zeros (l::P).length from rfl];rw[qK hMl hu0 hus];have sz:∀k:Nat,iter k (sig P l) (zeros P.length)=zeros P.length:=by
   intro k
   induction k with
   |zero=>rfl
   |succ k ih=>simp only[iter];rw[show sig P l (zeros P.length)=zeros P.length from sX _ _ _ _];exact ih
  have h1:∀k:Nat,(k:Int)<l.o→pw (mul (l::P)) (zeros (l::P).length) (1::zeros P.length) k=(k:Int)::zeros P.length:=by
   intro k
   induction k with
   |zero=>intro _;rfl
   |succ k ih=>
    intro hk;rw[pw,vB];show mul (l::P) (pw (mul (l::P)) (zeros (l::P).length) (1::zeros P.length) k) (1::zeros P.length)=_;rw[ih (by omega),yV,if_neg (by omega)];rw[sz,hMP.onel hz];rfl
  have h2:∀(cs:List Vec)(y acc:Vec),(∀c∈cs,V P c)→V P acc→img (mul (l::P)) (cs.map (0::·)) y (0::acc)=0::img (mul P) cs y acc:=by
   intro cs
   induction cs with
   |nil=>intro y acc _ _;simp[img]
   |cons c cs ih=>
    intro y acc hc hacc;cases y with
    |nil=>simp[img]
    |cons z y=>
     have hc0:V P c:=hc c (by simp);have it:∀(k:Nat)(acc:Vec),V P acc→iter k (fun v=>mul (l::P) v (0::c)) (0::acc)=0::iter k (fun v=>mul P v c) acc:=by
      intro k
      induction k with
      |zero=>intro _ _;rfl
      |succ k ihk=>
       intro acc hacc;simp only[iter];rw[yV,if_neg (by omega)];exact ihk _ (xC h.2.2.2.2 hacc hc0)
     simp only[Jt,img];rw[it _ _ hacc,ih _ _ (fun c h=>hc c (by simp[h])) (vL (fun a ha=>xC h.2.2.2.2 ha hc0) _ hacc)]
  have hun:∀c∈wL P.length,V P c:=by
   intro c hc;simp only[wL,Jo,Kk]at hc;obtain⟨j,hj,rfl⟩:=hc;exact zCz h.2.2.2.2 hj
  rw[h1 a.toNat (by omega),show zeros (l::P).length=0::zeros P.length from rfl,h2 _ _ _ hun hz,normal P h.2.2.2.2 (fun Q hQ=>hM Q (hQ.trans (Ql _ _))) x hx.2,yV,if_neg (by omega)];simp only[Hq,iter];rw[hMP.onel hx.2]
  congr 1
  omega
theorem zC1:∀(P:Pcp),Ok P→wR P→Grp (V P) (mul P) (zeros P.length)
 | [],_,_=>by
  refine⟨⟨fun _ _=>rfl,rfl,fun _ _ _=>rfl,?_,?_⟩,fun ha=>⟨[],rfl,rfl⟩⟩<;>
  ·intro a ha
   simp only[V]at ha;subst ha;rfl
 |l::P,h,hc=>by
  have h':=h;simp only[Ok]at h;simp only[wR]at hc;obtain⟨ho,hw,hcl,hcs,hP⟩:=h;obtain⟨hcP,hrel,hfix,hinn⟩:=hc;have N:=zC1 P hP hcP;have hM:∀Q,Q<:+P→Mon (V Q) (mul Q) (zeros Q.length):=by
   intro Q hQ;obtain⟨t,ht⟩:=hQ;have:Ok Q∧wR Q:=by
    clear N hw hcl hcs hrel hfix hinn h'
    induction t generalizing P with
    |nil=>simp at ht;subst ht;exact⟨hP,hcP⟩
    |cons a t ih=>
     simp at ht;subst ht;simp only[Ok]at hP;simp only[wR]at hcP;exact ih (t++Q) hP.2.2.2.2 hcP.1 rfl
   have hlt:SizeOf.sizeOf Q≤SizeOf.sizeOf P:=by
    rw[←ht]
    clear N hw hcl hcs hrel hfix hinn h' hP hcP ht this
    induction t with
    |nil=>simp
    |cons a t ih=>simp only[Jn,Qu.sizeOf_spec];omega
   exact(zC1 Q this.1 this.2).toMon
  have hz:V P (zeros P.length):=wP hP;have σin:∀v,V P v→V P (sig P l v):=fun _ hv=>zC0 h' hv
  have σhom:∀x y,V P x→V P y→sig P l (mul P x y)=mul P (sig P l x) (sig P l y):=fun x y hx hy=>zY6 N.toMon P l.cs hP hcs hrel x y hx hy
  have σz:sig P l (zeros P.length)=zeros P.length:=sX _ _ _ _;have itin:∀(k:Nat) v,V P v→V P (iter k (sig P l) v):=fun k v hv=>vL σin k hv
  have ithom:∀(k:Nat) x y,V P x→V P y→iter k (sig P l) (mul P x y)=mul P (iter k (sig P l) x) (iter k (sig P l) y):=by
   intro k
   induction k with
   |zero=>intro _ _ _ _;rfl
   |succ k ih=>intro x y hx hy;simp only[iter];rw[σhom x y hx hy,ih _ _ (σin x hx) (σin y hy)]
  have itz:∀k:Nat,iter k (sig P l) (zeros P.length)=zeros P.length:=by
   intro k
   induction k with
   |zero=>rfl
   |succ k ih=>simp only[iter];rw[σz];exact ih
  have itw:∀k:Nat,iter k (sig P l) l.w=l.w:=by
   intro k
   induction k with
   |zero=>rfl
   |succ k ih=>simp only[iter];rw[hfix];exact ih
  have hun:∀c∈wL P.length,V P c:=by
   intro c hc;simp only[wL,Jo,Kk]at hc;obtain⟨j,hj,rfl⟩:=hc;exact zCz hP hj
  have inner:∀x,V P x→mul P x l.w=mul P l.w (iter l.o.toNat (sig P l) x):=by
   intro x hx;have hnf:=normal P hP hM x hx;have hmap:=zOg N.toMon N.toMon (iter l.o.toNat (sig P l)) (fun a ha=>itin _ a ha) (itz _) (fun a b ha hb=>ithom _ a b ha hb) (wL P.length) x hun;rw[←hnf,hmap];refine zHp N.toMon hw _ _ x hun (by simp only[Jo];rintro _ ⟨c,hc,rfl⟩;exact itin _ c (hun c hc)) (by simp) ?_;intro k c d hc hd;rw[K1,Lb]at hd;obtain⟨c',hc',rfl⟩:=hd;rw[hc]at hc';simp at hc';subst hc';obtain⟨hk,rfl⟩:=zPn hc;exact(hinn k hk).symm
  have e:∀(x y z:Vec)(b c:Int),V P x→V P y→V P z→0≤b→0≤c→
    mul P (iter c.toNat (sig P l) (mul P (iter b.toNat (sig P l) x) y)) z=mul P (iter (b+c).toNat (sig P l) x) (mul P (iter c.toNat (sig P l) y) z)∧
    mul P (iter c.toNat (sig P l) (mul P l.w (mul P (iter b.toNat (sig P l) x) y))) z=mul P l.w (mul P (iter (b+c).toNat (sig P l) x) (mul P (iter c.toNat (sig P l) y) z))∧
    (l.o≤b+c→mul P (iter (b+c-l.o).toNat (sig P l) x) (mul P l.w (mul P (iter c.toNat (sig P l) y) z))=mul P l.w (mul P (iter (b+c).toNat (sig P l) x) (mul P (iter c.toNat (sig P l) y) z))):=by
   intro x y z b c hx hy hz hb hcc;have hbx:=itin b.toNat x hx;have hcy:=itin c.toNat y hy;have hbc:iter c.toNat (sig P l) (iter b.toNat (sig P l) x)=iter (b+c).toNat (sig P l) x:=by
    rw[←zE9];congr 1;omega
   have hbcx:=itin (b+c).toNat x hx;have e1:mul P (iter c.toNat (sig P l) (mul P (iter b.toNat (sig P l) x) y)) z=mul P (iter (b+c).toNat (sig P l) x) (mul P (iter c.toNat (sig P l) y) z):=by
    rw[ithom _ _ _ hbx hy,hbc,N.assoc hbcx hcy hz]
   refine⟨e1,?_,?_⟩
   ·rw[ithom _ _ _ hw (N.cl hbx hy),itw,N.assoc hw (itin _ _ (N.cl hbx hy)) hz,e1]
   ·intro hge
    have hcyz:=N.cl hcy hz;rw[←N.assoc (itin _ x hx) hw hcyz,inner _ (itin _ x hx),←zE9,N.assoc hw (itin _ x hx) hcyz]
    congr 3
    omega
  refine⟨⟨fun ha hb=>xC h' ha hb,wP h',?_,?_,?_⟩,?_⟩
  ·intro A B C hA hB hC
   match A,B,C,hA,hB,hC with
   |a::x,b::y,c::z,hA,hB,hC=>
    simp only[V]at hA hB hC;obtain⟨e1,e2,e3⟩:=e x y z b c hA.2 hB.2 hC.2 hB.1.1 hC.1.1
    by_cases c1:a+b≥l.o<;>by_cases c2:b+c≥l.o
    ·rw[yV,if_pos c1,yV l P b c,if_pos c2,yV,yV,e2,e3 c2]
     by_cases c3:a+b-l.o+c≥l.o
     ·rw[if_pos c3,if_pos (by omega)];congr 1;omega
     ·rw[if_neg c3,if_neg (by omega)];congr 1;omega
    ·rw[yV,if_pos c1,yV l P b c,if_neg c2,yV,yV,e2,if_neg (by omega),if_pos (by omega)]
     congr 1;omega
    ·rw[yV,if_neg c1,yV l P b c,if_pos c2,yV,yV,e1,e3 c2,if_pos (by omega),if_neg (by omega)]
     congr 1;omega
    ·rw[yV,if_neg c1,yV l P b c,if_neg c2,yV,yV,e1]
     by_cases c3:a+b+c≥l.o
     ·rw[if_pos c3,if_pos (by omega)];congr 1;omega
     ·rw[if_neg c3,if_neg (by omega)];congr 1;omega
  ·intro A hA
   match A,hA with
   |a::x,hA=>
    simp only[V]at hA;show mul (l::P) (0::zeros P.length) (a::x)=_;rw[yV,if_neg (by omega),itz,N.onel hA.2,Lp]
  ·intro A hA
   match A,hA with
   |a::x,hA=>
    simp only[V]at hA;show mul (l::P) (a::x) (0::zeros P.length)=_;rw[yV,if_neg (by omega)];simp only[Hq,iter];rw[N.oner hA.2,H8]
  ·intro A hA
   match A,hA with
   |a::x,hA=>
    simp only[V]at hA
    by_cases ha:a=0
    ·obtain⟨y,hy,h1⟩:=N.inv hA.2
     refine⟨0::y,by simp only[V];exact⟨by omega,hy⟩,?_⟩;rw[yV,if_neg (by omega)];simp only[Hq,iter];rw[h1,ha];rfl
    ·have hx1:=itin (l.o-a).toNat x hA.2
     obtain⟨y,hy,h1⟩:=N.inv (N.cl hw hx1);refine⟨(l.o-a)::y,by simp only[V];exact⟨by omega,hy⟩,?_⟩;rw[yV,if_pos (by omega),←N.assoc hw hx1 hy,h1,show a+(l.o-a)-l.o=0 by omega];rfl
termination_by P=>P
end Go.Pc

namespace Go.Pl
open Go Go.Ab
theorem bs{α β:Type}(x:α)(f:α→Option β):(some x).bind f=f x:=by simp only[Option.bind_some]
theorem zQ{α:Type}(x y:α):cond true x y=x:=by simp only[cond_true]
theorem zL{α:Type}(x y:α):cond false x y=y:=by simp only[cond_false]
theorem zE{n:Int}(h1:-9223372036854775808≤n)(h2:n≤9223372036854775807):rng n=some n:=by
 unfold rng;rw[if_pos];simp only[inR,J4,decide_eq_true_eq];omega
theorem uR{α:Type}(xs:List α)(i:Nat):ixO xs (i:Int)=xs[i]?:=by
 unfold ixO;rw[if_pos (by omega)];simp
theorem kD{α:Type}{xs:List α}{i:Nat}(h:i<xs.length):ixO xs (i:Int)=some xs[i]:=by
 rw[uR];exact J3 h
theorem wJ{n:Nat}(h:n≤68719476736):xH (n:Int)=some n:=by
 unfold xH;rw[if_pos (by omega)];simp
theorem xK{α:Type}{xs ys:List α}(h:xs.length+ys.length≤68719476736):wK xs ys=some (xs++ys):=by
 unfold wK;rw[if_pos h]
theorem yB{σ ρ:Type}{body:σ→Option (σ⊕ρ)}{r:ρ}(S:Nat→σ)(n:Nat)(h:∀i,i<n→body (S i)=some (.inl (S (i+1))))(he:body (S n)=some (.inr r)):zJ body (S 0)=some r:=by
 have key:∀k i,i+k=n→zJ body (S i)=some r:=by
  intro k
  induction k with
  |zero=>intro i hi;rw[xT,show i=n from by omega,he]
  |succ k ih=>intro i hi;rw[xT,h i (by omega)];exact ih (i+1) (by omega)
 exact key n 0 (by omega)
theorem tD{σ ρ:Type}{body:σ→Option (σ⊕ρ)}{Q:ρ→Prop}(I:Nat→σ→Prop)(n:Nat)(h:∀i s,i<n→I i s→(∃s',body s=some (.inl s')∧I (i+1) s')∨ ∃r,body s=some (.inr r)∧Q r)
  (he:∀s,I n s→ ∃r,body s=some (.inr r)∧Q r){s:σ}(h0:I 0 s):∃r,zJ body s=some r∧Q r:=by
 have key:∀k i s,i+k=n→I i s→ ∃r,zJ body s=some r∧Q r:=by
  intro k
  induction k with
  |zero=>
   intro i s hi hs;obtain rfl:i=n:=by omega
   obtain⟨r,h1,h2⟩:=he s hs;exact⟨r,by rw[xT,h1],h2⟩
  |succ k ih=>
   intro i s hi hs;rcases h i s (by omega) hs with⟨s',h1,h2⟩|⟨r,h1,h2⟩
   ·rw[xT,h1];exact ih (i+1) s' (by omega) h2
   ·exact⟨r,by rw[xT,h1],h2⟩
 exact key n 0 s (by omega) h0
def zKW{ρ:Type}:Option ρ→Unit⊕ρ
 |none=>.inl ()
 |some r=>.inr r
theorem cs(i:Nat):(i:Int)+1=((i+1:Nat):Int):=by omega
theorem zIL{ρ:Type}{body:Int→Option (Int⊕(Unit⊕ρ))}(n:Nat)(t:Nat→Option ρ)(i0:Nat)(hn:i0≤n)
  (h:∀i,i0≤i→i<n→(∀j,i0≤j→j<i→t j=none)→body (i:Int)=some (match t i with|none=>.inl ((i+1:Nat):Int)|some r=>.inr (.inr r)))
  (he:(∀j,i0≤j→j<n→t j=none)→body (n:Int)=some (.inr (.inl ()))):
  zJ body (i0:Int)=some (zKW ((L6 i0 (n-i0)).findSome? t)):=by
 have key:∀k i,i0≤i→i+k=n→(∀j,i0≤j→j<i→t j=none)→zJ body (i:Int)=some (zKW ((L6 i k).findSome? t)):=by
  intro k
  induction k with
  |zero=>
   intro i hi hk hp;obtain rfl:i=n:=by omega
   rw[xT,he hp];rfl
  |succ k ih=>
   intro i hi hk hp;rw[xT,h i hi (by omega) hp,Jdf,Jc2];cases ht:t i with
   |some r=>rfl
   |none=>
    simp only
    exact ih (i+1) (by omega) (by omega) fun j h1 h2=>by
     rcases Jk j i with h3|h3
     ·exact hp j h1 h3
     ·rw[show j=i from by omega];exact ht
 exact key (n-i0) i0 (Jp _) (by omega) fun j h1 h2=>by omega
theorem zRk{n:Nat}{b:Nat→Bool}:zKW ((L6 0 n).findSome? (fun i=>if b i then none else some false))=if(Jw n).all b then .inl ()else .inr false:=by
 have key:∀l:List Nat,zKW (l.findSome? (fun i=>if b i then none else some false))=if l.all b then .inl ()else .inr false:=by
  intro l
  induction l with
  |nil=>rfl
  |cons x l ih=>
   rw[Jc2,Jbx];cases hb:b x
   ·rfl
   ·simpa using ih
 rw[key,Lq]
theorem zIM{body:Int→Option (Int⊕(Unit⊕Bool))}(n:Nat)(b:Nat→Bool)
  (h:∀i,i<n→(∀j,j<i→b j=true)→body (i:Int)=some (if b i then .inl ((i+1:Nat):Int)else .inr (.inr false)))
  (he:(∀j,j<n→b j=true)→body (n:Int)=some (.inr (.inl ()))):
  zJ body 0=some (if(Jw n).all b then .inl ()else .inr false):=by
 have:=zIL (body:=body) n (fun i=>if b i then none else some false) 0 (Ke _) (fun i _ hi hp=>by
  rw[h i hi fun j hj=>by
   have:=hp j (Ke _) hj;split at this
   ·assumption
   ·cases this]
  cases b i<;>rfl) (fun hp=>he fun j hj=>by
   have:=hp j (Ke _) hj;split at this
   ·assumption
   ·cases this)
 rw[U7]at this;exact this.trans (congrArg some (zRk (n:=n) (b:=b)))
theorem zRl{α:Type}{xs:List α}{z:α}{i:Nat}(h:i<xs.length):(xs.take i++J1 (xs.length-i) z).set i xs[i]=xs.take (i+1)++J1 (xs.length-(i+1)) z:=by
 have h1:(xs.take i).length=i:=by rw[Jy];omega
 rw[Hg _ _ (by omega),h1,Kr,show xs.length-i=(xs.length-(i+1))+1 from by omega,Jq,Ku,Ka h];simp only[Ja,Lv]
theorem zJE{α:Type}{f:α→Option α}{body:List α×Int→Option ((List α×Int)⊕List α)}{x0:List α}{z:α}
  (hb:∀s,body s=cond (decide (s.2<(x0.length:Int))) ((ixO x0 s.2).bind fun v2=>(f v2).bind fun r3=>(ixO s.1 s.2).bind fun _=>(rng (s.2+1)).bind fun v5=>some (.inl (s.1.set s.2.toNat r3,v5))) (some (.inr s.1)))
  (hl:x0.length≤68719476736)(hf:∀x∈x0,f x=some x):zJ body (J1 x0.length z,0)=some x0:=by
 have:=yB (body:=body) (r:=x0) (fun i=>(x0.take i++J1 (x0.length-i) z,(i:Int))) x0.length (fun i hi=>by
  rw[hb];simp only[decide_eq_true (show((i:Int))<(x0.length:Int)from by omega),zQ];rw[kD hi,uR];simp only[bs,hf _ (Kd hi)];rw[J3 (by simp;omega),bs,zE (by omega) (by omega),bs];simp only[Jg,zRl hi,cs]) (by
  rw[hb];simp only[decide_eq_false (show¬((x0.length:Int))<(x0.length:Int)from by omega),zL,Lx,Kr,Hc,J9])
 simpa using this
theorem zTK{α:Type}[BEq α]{t:α→α→Option Bool}{body:Int→Option (Int⊕(Unit⊕Bool))}{x y:List α}
  (hb:∀i,body i=cond (decide (i<(x.length:Int))) ((ixO x i).bind fun v1=>(ixO y i).bind fun v2=>(t v1 v2).bind fun r3=>cond (!r3) (some (.inr (.inr false))) ((rng (i+1)).bind fun v4=>some (.inl v4))) (some (.inr (.inl ()))))
  (hl:x.length≤68719476736)(hxy:x.length=y.length)(ht:∀u∈x,∀v∈y,t u v=some (u==v)):zJ body 0=some (if x==y then .inl ()else .inr false):=by
 have h:=zIM (body:=body) x.length (fun i=>match x[i]?,y[i]? with|some u,some v=>u==v|_,_=>true) (fun i hi _=>by
  have hi':i<y.length:=by omega
  rw[hb];simp only[decide_eq_true (show((i:Int))<(x.length:Int)from by omega),zQ];rw[kD hi,kD hi'];simp only[bs,ht _ (Kd hi) _ (Kd hi'),J3 hi,J3 hi'];cases x[i]==y[i]
  ·rfl
  ·simp only[K9,zL,if_true]
   rw[zE (by omega) (by omega),cs];rfl) (fun _=>by
  rw[hb];simp only[decide_eq_false (show¬((x.length:Int))<(x.length:Int)from by omega),zL])
 rw[h]
 congr 2
 have key:∀(x y:List α),x.length=y.length→((Jw x.length).all (fun i=>match x[i]?,y[i]? with|some u,some v=>u==v|_,_=>true))=(x==y):=by
  intro x
  induction x with
  |nil=>intro y hy;cases y with|nil=>rfl|cons _ _=>simp at hy
  |cons u x ih=>
   intro y hy;cases y with
   |nil=>simp at hy
   |cons v y=>
    rw[J7,Jb6,Jbx,List.all_map];simp only[Ja9,Function.comp_def,Uw];rw[ih y (by simpa using hy)];rfl
 rw[key x y hxy]
theorem zIN{α:Type}[BEq α]{t:α→α→Option Bool}{f:Option Bool}{body:Int→Option (Int⊕(Unit⊕Bool))}{x y:List α}
  (hf:f=cond ((x.length:Int) != (y.length:Int)) (some false) ((zJ body 0).bind fun r=>match r with|.inl _=>some true|.inr r=>some r))
  (hb:∀i,body i=cond (decide (i<(x.length:Int))) ((ixO x i).bind fun v1=>(ixO y i).bind fun v2=>(t v1 v2).bind fun r3=>cond (!r3) (some (.inr (.inr false))) ((rng (i+1)).bind fun v4=>some (.inl v4))) (some (.inr (.inl ()))))
  (hl:x.length≤68719476736)(ht:∀u∈x,∀v∈y,t u v=some (u==v)):f=some (x==y):=by
 rw[hf]
 by_cases hxy:x.length=y.length
 ·rw[zTK hb hl hxy ht]
  have:((x.length:Int) != (y.length:Int))=false:=by simp[hxy]
  rw[this];cases x==y<;>rfl
 ·have:((x.length:Int) != (y.length:Int))=true:=by simp;omega
  rw[this];have h2:(x==y)=false:=by
   have key:∀(x y:List α),x.length≠y.length→(x==y)=false:=by
    intro x
    induction x with
    |nil=>intro y hy;cases y with|nil=>simp at hy|cons _ _=>rfl
    |cons u x ih=>
     intro y hy;cases y with
     |nil=>rfl
     |cons v y=>
      show(u==v&&x==y)=false;rw[ih y (by simpa using hy),Bool.and_false]
   exact key x y hxy
  rw[h2];rfl
end Go.Pl

namespace Go.Pl
open Go Go.Ab
def sm{α:Type}(c:α→Nat):List α→Nat
 | []=>0
 |x::xs=>c x+sm c xs
theorem zDb{α:Type}(c:α→Nat):∀xs ys:List α,sm c (xs++ys)=sm c xs+sm c ys
 | [],ys=>by simp[sm]
 |x::xs,ys=>by simp only[Jn,sm,zDb c xs ys];omega
theorem zGs{α:Type}(c:α→Nat){xs:List α}{i:Nat}(h:i<xs.length):sm c (xs.take (i+1))=sm c (xs.take i)+c xs[i]:=by
 rw[Ka h,zDb];simp[sm]
theorem zBD{α:Type}(c:α→Nat)(xs:List α)(i:Nat):sm c (xs.take i)≤sm c xs:=by
 have:=zDb c (xs.take i) (xs.drop i);rw[Jbk]at this;omega
theorem zRm{α:Type}(c:α→Nat){xs:List α}{x:α}(h:x∈xs):c x≤sm c xs:=by
 obtain⟨i,hi,rfl⟩:=Ls.1 h;have:=zGs c hi;have:=zBD c xs (i+1);omega
def szR(c:Nat)(b:Int):Int:=if(c:Int)≤b then b-c else -1
theorem zVm{α:Type}{c:α→Nat}{t:α→Int→Option Int}{f:Option Int}{body:Int×Int→Option ((Int×Int)⊕(Int⊕Int))}{xs:List α}{b:Int}
  (hf:f=(rng (b-(xs.length:Int))).bind fun v1=>cond (decide (v1<0)) (some (-1)) ((zJ body (v1,0)).bind fun r=>match r with|.inl r=>some r|.inr r=>some r))
  (hb:∀s,body s=cond (decide (s.2<(xs.length:Int))) ((ixO xs s.2).bind fun v2=>(t v2 s.1).bind fun r3=>cond (decide (r3<0)) (some (.inr (.inr (-1)))) ((rng (s.2+1)).bind fun v4=>some (.inl (r3,v4)))) (some (.inr (.inl s.1))))
  (hl:xs.length≤9223372036854775807)(b0:0≤b)(b1:b≤1048576)(ht:∀x∈xs,∀b',0≤b'→b'≤1048576→t x b'=some (szR (c x) b')):f=some (szR (xs.length+sm c xs) b):=by
 rw[hf,zE (by omega) (by omega),bs]
 by_cases h0:b-(xs.length:Int)<0
 ·rw[decide_eq_true h0,zQ,szR,if_neg (by omega)]
 ·rw[decide_eq_false h0,zL]
  obtain⟨r,h1,h2⟩:=tD (body:=body) (Q:=fun r=>(match r with|.inl r=>some r|.inr r=>some r)=some (szR (xs.length+sm c xs) b)) (fun i s=>s.2=(i:Int)∧0≤s.1∧s.1=b-xs.length-sm c (xs.take i)) xs.length (fun i s hi ⟨e1,e2,e3⟩=>by
   rw[hb,e1,decide_eq_true (by omega),zQ,kD hi,bs,ht _ (Kd hi) _ e2 (by omega),bs];have h3:=zGs c hi;have h4:=zBD c xs (i+1);unfold szR
   by_cases h5:(c xs[i]:Int)≤s.1
   ·rw[if_pos h5,decide_eq_false (by omega),zL,zE (by omega) (by omega),bs,cs]
    exact .inl ⟨_,rfl,rfl,by simp only;omega,by simp only;omega⟩
   ·rw[if_neg h5]
    refine .inr ⟨.inr (-1),rfl,?_⟩;simp only
    rw[if_neg (by omega)]) (fun s ⟨e1,e2,e3⟩=>by
   rw[hb,e1,decide_eq_false (by omega),zL];rw[Lx]at e3;refine⟨_,rfl,?_⟩;simp only
   rw[szR,if_pos (by omega),e3]
   congr 1;omega) (s:=(b-(xs.length:Int),0)) ⟨rfl,by simp only;omega,by simp[sm]⟩
  rw[h1,bs,h2]
def mkL{α:Type}(m:Int→α→α)(c:α→Nat):Int→List α→List α
 |_,[]=>[]
 |k,x::xs=>m k x::mkL m c (k+c x) xs
theorem zDV{α:Type}(m:Int→α→α)(c:α→Nat):∀(xs ys:List α)(k:Int),mkL m c k (xs++ys)=mkL m c k xs++mkL m c (k+sm c xs) ys
 | [],ys,k=>by simp[mkL,sm]
 |x::xs,ys,k=>by
  simp only[Jn,mkL,sm,zDV m c xs ys];rw[show k+(c x:Int)+(sm c xs:Int)=k+((c x+sm c xs:Nat):Int)from by omega]
theorem uV{α:Type}(m:Int→α→α)(c:α→Nat):∀(xs:List α)(k:Int),(mkL m c k xs).length=xs.length
 | [],_=>rfl
 |x::xs,k=>by simp[mkL,uV m c xs]
theorem zOh{α:Type}(m:Int→α→α)(c:α→Nat){xs:List α}{i:Nat}(h:i<xs.length)(k:Int):(mkL m c k xs)[i]'(by rw[uV];exact h)=m (k+sm c (xs.take i)) xs[i]:=by
 have h1:xs=xs.take i++xs[i]::xs.drop (i+1):=by simp
 have h2:=zDV m c (xs.take i) (xs[i]::xs.drop (i+1)) k;rw[←h1]at h2;rw[List.getElem_of_eq h2];rw[List.getElem_append_right (by rw[uV,Jy];omega)];simp[mkL,uV,Gd (Jcv h)]
theorem zFz{α:Type}{m:Int→α→α}{c:α→Nat}{t:α→Int→Option (Int×α)}{body:List α×Int×Int→Option ((List α×Int×Int)⊕(List α×Int))}{xs:List α}{k:Int}
  (hb:∀s,body s=cond (decide (s.2.2<(s.1.length:Int))) ((ixO s.1 s.2.2).bind fun v1=>(t v1 s.2.1).bind fun r2=>(rng (s.2.2+1)).bind fun v3=>some (.inl (s.1.set s.2.2.toNat r2.2,r2.1,v3))) (some (.inr (s.1,s.2.1))))
  (hl:xs.length≤1048576)(k0:0≤k)(k1:k+sm c xs≤9223372036854775807)(ht:∀x∈xs,∀k':Int,0≤k'→k'+c x≤9223372036854775807→t x k'=some (k'+c x,m k' x)):zJ body (xs,k,0)=some (mkL m c k xs,k+sm c xs):=by
 have:=yB (body:=body) (r:=(mkL m c k xs,k+sm c xs)) (fun i=>(mkL m c k (xs.take i)++xs.drop i,k+sm c (xs.take i),(i:Int))) xs.length (fun i hi=>by
  have h1:=zGs c hi;have h2:=zBD c xs (i+1);have hlen:(mkL m c k (xs.take i)).length=i:=by rw[uV,Jy];omega
  have hg:(mkL m c k (xs.take i)++xs.drop i)[i]? =some xs[i]:=by
   rw[J8 (by omega),hlen,Kr,Kq,Gf,J3 hi]
  rw[hb];simp only
  rw[decide_eq_true (by rw[J5,hlen,Jx];omega),zQ,uR,hg,bs,ht _ (Kd hi) _ (by omega) (by omega),bs,zE (by omega) (by omega),bs,cs];simp only[Jg];rw[Hg _ _ (by omega),hlen,Kr,H7 hi,Ku,Ka hi,zDV,zDb,Ja];simp only[mkL,sm,Lv,Gf];rw[show k+(sm c (xs.take i):Int)+(c xs[i]:Int)=k+((sm c (xs.take i)+c xs[i]:Nat):Int)from by omega]) (by
  rw[hb];simp only
  rw[decide_eq_false (by rw[J5,uV,Jy,Jx];omega),zL];simp only[Lx,Jbv,J9])
 simpa[mkL,sm]using this
theorem zPo{α:Type}{m:Int→α→α}{c:α→Nat}{t:α→Int→Option Int}{f:Option Int}{xs:List α}{k:Int}{body:Int×Int→Option ((Int×Int)⊕(Int⊕Int))}
  (hf:f=(zJ body (k,0)).bind fun r=>match r with|.inl r=>some r|.inr r=>some r)
  (hb:∀s,body s=cond (decide (s.2<((mkL m c k xs).length:Int))) ((ixO (mkL m c k xs) s.2).bind fun v1=>(t v1 s.1).bind fun r2=>cond (decide (r2<0)) (some (.inr (.inr (-1)))) ((rng (s.2+1)).bind fun v3=>some (.inl (r2,v3)))) (some (.inr (.inl s.1))))
  (hl:xs.length≤1048576)(k0:0≤k)(k1:k+sm c xs≤9223372036854775807)(ht:∀x∈xs,∀k':Int,0≤k'→k'+c x≤9223372036854775807→t (m k' x) k'=some (k'+c x)):f=some (k+sm c xs):=by
 have:=yB (body:=body) (r:=.inl (k+sm c xs)) (fun i=>(k+sm c (xs.take i),(i:Int))) xs.length (fun i hi=>by
  have h1:=zGs c hi;have h2:=zBD c xs (i+1);rw[hb];simp only
  rw[uV,decide_eq_true (by omega),zQ,kD (by rw[uV];exact hi),bs,zOh m c hi,ht _ (Kd hi) _ (by omega) (by omega),bs,decide_eq_false (by omega),zL,zE (by omega) (by omega),bs,cs,h1];rw[show k+(sm c (xs.take i):Int)+(c xs[i]:Int)=k+((sm c (xs.take i)+c xs[i]:Nat):Int)from by omega]) (by
  rw[hb];simp only
  rw[uV,decide_eq_false (by omega),zL,Lx])
 rw[hf];simp only[K8,sm]at this;rw[show k+((0:Nat):Int)=k from by omega]at this;rw[show((0:Nat):Int)=0 from rfl]at this;rw[this];rfl
end Go.Pl

namespace Go.Pl
open Go Go.Ab Go.Wk
abbrev VI(n:Int):Prop:=(Lit.int .i64 n).wf=true
abbrev VL{α:Type}(V:α→Prop)(xs:List α):Prop:=xs.length≤maxLen∧ ∀x∈xs,V x
abbrev c1(x:List Int):Nat:=x.length
abbrev c2(x:List (List Int)):Nat:=x.length+sm c1 x
abbrev c3(x:List (List (List Int))):Nat:=x.length+sm c2 x
theorem zKX{x:List Int}{b:Int}(hl:x.length≤9223372036854775807)(b0:0≤b)(b1:b≤1048576):zSh x b=some (szR (c1 x) b):=by
 unfold zSh szR;rw[zE (by omega) (by omega),bs]
 by_cases h:(c1 x:Int)≤b
 ·rw[decide_eq_false (by simp only[c1]at h;omega),zL,if_pos h]
 ·rw[decide_eq_true (by simp only[c1]at h;omega),zQ,if_neg h]
theorem zIO{x:List (List Int)}{b:Int}(h:VL (VL VI) x)(b0:0≤b)(b1:b≤1048576):zUk x b=some (szR (c2 x) b):=
 zVm (c:=c1) rfl (fun _=>rfl) h.1 b0 b1 fun y hy _ h1 h2=>zKX (h.2 y hy).1 h1 h2
theorem zHq{x:List (List (List Int))}{b:Int}(h:VL (VL (VL VI)) x)(b0:0≤b)(b1:b≤1048576):zUl x b=some (szR (c3 x) b):=
 zVm (c:=c2) rfl (fun _=>rfl) h.1 b0 b1 fun y hy _ h1 h2=>zIO (h.2 y hy) h1 h2
abbrev S1(x:List Int):Prop:=c1 x≤1048576
abbrev S2(x:List (List Int)):Prop:=c2 x≤1048576
abbrev S3(x:List (List (List Int))):Prop:=c3 x≤1048576
theorem S2.mem{x:List (List Int)}(h:S2 x){y:List Int}(hy:y∈x):S1 y:=by
 have:=zRm c1 hy;simp only[S2,S1,c2]at h ⊢;omega
theorem S3.mem{x:List (List (List Int))}(h:S3 x){y:List (List Int)}(hy:y∈x):S2 y:=by
 have:=zRm c2 hy;simp only[S3,S2,c3]at h ⊢;omega
theorem S1.len{x:List Int}(h:S1 x):x.length≤1048576:=h
theorem S2.len{x:List (List Int)}(h:S2 x):x.length≤1048576:=by simp only[S2,c2]at h;omega
theorem S3.len{x:List (List (List Int))}(h:S3 x):x.length≤1048576:=by simp only[S3,c3]at h;omega
theorem zKY{x:List Int}(h:S1 x):zPF x=some x:=by
 unfold zPF;rw[wJ (Kv h (by decide)),bs,zJE (body:=zSi x) (f:=some) (fun _=>rfl) (Kv h (by decide)) (fun _ _=>rfl),bs]
theorem zIP{x:List (List Int)}(h:S2 x):zPG x=some x:=by
 unfold zPG;rw[wJ (Kv h.len (by decide)),bs,zJE (body:=zSj x) (f:=zPF) (fun _=>rfl) (Kv h.len (by decide)) (fun _ hx=>zKY (h.mem hx)),bs]
theorem zHr{x:List (List (List Int))}(h:S3 x):zSl x=some x:=by
 unfold zSl;rw[wJ (Kv h.len (by decide)),bs,zJE (body:=zSk x) (f:=zPG) (fun _=>rfl) (Kv h.len (by decide)) (fun _ hx=>zIP (h.mem hx)),bs]
theorem zKZ{x y:List Int}(h:S1 x):zTc x y=some (x==y):=
 zIN (t:=fun u v=>some (u==v)) (body:=zTb x y) rfl (fun _=>rfl) (Kv h.len (by decide)) fun _ _ _ _=>rfl
theorem zDc{x y:List (List Int)}(h:S2 x):f_T x y=some (x==y):=
 zIN (t:=zTc) (body:=zXc x y) rfl (fun _=>rfl) (Kv h.len (by decide)) fun _ hu _ _=>zKZ (h.mem hu)
theorem zHs{x y:List (List (List Int))}(h:S3 x):zU6 x y=some (x==y):=
 zIN (t:=f_T) (body:=zTd x y) rfl (fun _=>rfl) (Kv h.len (by decide)) fun _ hu _ _=>zDc (h.mem hu)
def m1(k:Int)(x:List Int):List Int:=mkL (fun k _=>k) (fun _=>1) k x
def m2(k:Int)(x:List (List Int)):List (List Int):=mkL m1 c1 k x
def m3(k:Int)(x:List (List (List Int))):List (List (List Int)):=mkL m2 (sm c1) k x
theorem zM4{α:Type}:∀xs:List α,sm (fun _=>1) xs=xs.length
 | []=>rfl
 |x::xs=>by simp[sm,zM4 xs];omega
theorem zHt{x:List Int}{k:Int}(h:S1 x)(k0:0≤k)(k1:k+c1 x≤9223372036854775807):f_Z x k=some (k+c1 x,m1 k x):=by
 have h1:=zM4 x;have:=zFz (m:=fun k _=>k) (c:=fun _=>1) (t:=fun v k=>(rng (k+1)).bind fun v2=>some (v2,k)) (body:=zU9) (xs:=x) (k:=k) (fun s=>by
  unfold zU9
  congr 1
  cases ixO s.1 s.2.2 with
  |none=>rfl
  |some v=>
   simp only[bs];cases rng (s.2.1+1)<;>rfl) h.len k0 (by rw[h1];exact k1) fun v _ k' h1 h2=>by
  have h2':k'+((1:Nat):Int)≤9223372036854775807:=h2;rw[zE (by omega) (by omega),bs];rfl
 unfold f_Z;rw[this,bs,h1];rfl
theorem zC2{x:List (List Int)}{k:Int}(h:S2 x)(k0:0≤k)(k1:k+sm c1 x≤9223372036854775807):zNr x k=some (k+sm c1 x,m2 k x):=by
 unfold zNr;rw[zFz (body:=zTe) (m:=m1) (c:=c1) (t:=f_Z) (fun _=>rfl) h.len k0 k1 fun y hy _ h1 h2=>zHt (h.mem hy) h1 h2,bs];rfl
theorem zEC{x:List (List (List Int))}{k:Int}(h:S3 x)(k0:0≤k)(k1:k+sm (sm c1) x≤9223372036854775807):zTg x k=some (k+sm (sm c1) x,m3 k x):=by
 unfold zTg;rw[zFz (body:=zTf) (m:=m2) (c:=sm c1) (t:=zNr) (fun _=>rfl) h.len k0 k1 fun y hy _ h1 h2=>zC2 (h.mem hy) h1 h2,bs];rfl
theorem zM5{x:List Int}{k:Int}(h:S1 x)(k0:0≤k)(k1:k+c1 x≤9223372036854775807):zTh (m1 k x) k=some (k+c1 x):=by
 have hl:=h.len;have hml:(m1 k x).length=x.length:=uV _ _ _ _;have:=yB (body:=zLY (m1 k x)) (r:=.inl (k+c1 x)) (fun i=>(k+(i:Int),(i:Int))) x.length (fun i hi=>by
  have hg:(m1 k x)[i]'(by rw[hml];exact hi)=k+sm (fun _=>1) (x.take i):=zOh _ _ hi _;unfold zLY;rw[decide_eq_true (by simp only[hml];omega),zQ,kD (by rw[hml];exact hi),bs,hg,zM4,Jy,Gd (by omega),show(k+(i:Int) != k+(i:Int))=false from by simp,zL,zE (by simp only[c1]at k1;omega) (by simp only[c1]at k1;omega),bs,zE (by omega) (by omega),bs,cs];rw[show k+(i:Int)+1=k+((i+1:Nat):Int)from by omega]) (by
  unfold zLY;rw[decide_eq_false (by simp only[hml];omega),zL])
 unfold zTh;rw[show k+((0:Nat):Int)=k from by omega,show((0:Nat):Int)=0 from rfl]at this;rw[this];rfl
theorem zLa{x:List (List Int)}{k:Int}(h:S2 x)(k0:0≤k)(k1:k+sm c1 x≤9223372036854775807):zUC (m2 k x) k=some (k+sm c1 x):=
 zPo (body:=zTi (m2 k x)) (m:=m1) (c:=c1) (t:=zTh) rfl (fun _=>rfl) h.len k0 k1 fun _ hy _ h1 h2=>zM5 (h.mem hy) h1 h2
def zOi(x:SPr):Prop:=VL VI x.zA∧VL (VL VI) x.zS∧VL (VL (VL VI)) x.zC
def zTL(x:zH):Prop:=VI x.Prime∧VI x.Dim∧VL (VL (VL VI)) x.zF
def zLb(x:SPr):Nat:=c1 x.zA+c2 x.zS+c3 x.zC
def zRn(x:zH):Nat:=c3 x.zF
def zD5(x:SPr):Prop:=S1 x.zA∧S2 x.zS∧S3 x.zC
def zIk(x:zH):Prop:=S3 x.zF
theorem zLc{a b:Nat}{n:Int}:(szR a n<0∧szR (a+b) n= -1)∨(0≤szR a n∧szR a n≤n∧szR b (szR a n)=szR (a+b) n∧(a:Int)≤n)∨n<0:=by
 unfold szR
 by_cases h:(a:Int)≤n
 ·rw[if_pos h]
  refine .inr (.inl ⟨by omega,by omega,?_,h⟩)
  by_cases h2:(b:Int)≤n-a
  ·rw[if_pos h2,if_pos (by omega)];omega
  ·rw[if_neg h2,if_neg (by omega)]
 ·rw[if_neg h]
  by_cases h3:n<0
  ·exact .inr (.inr h3)
  ·exact .inl ⟨by omega,by rw[if_neg (by omega)]⟩
theorem zHu{x:SPr}{b:Int}(h:zOi x)(b0:0≤b)(b1:b≤1048576):zUm x b=some (szR (zLb x) b):=by
 obtain⟨h1,h2,h3⟩:=h;unfold zUm zLb;rw[zKX h1.1 b0 b1,bs];rcases zLc (a:=c1 x.zA) (b:=c2 x.zS+c3 x.zC) (n:=b)with⟨g1,g2⟩|⟨g1,g2,g3,g4⟩|g1
 ·rw[decide_eq_true g1,zQ,Lr,g2]
 ·rw[decide_eq_false (by omega),zL,zIO h2 g1 (by omega),bs,Lr,←g3]
  generalize szR (c1 x.zA) b=b' at g1 g2
  rcases zLc (a:=c2 x.zS) (b:=c3 x.zC) (n:=b')with⟨k1,k2⟩|⟨k1,k2,k3,k4⟩|k1
  ·rw[decide_eq_true k1,zQ,k2]
  ·rw[decide_eq_false (by omega),zL,zHq h3 k1 (by omega),bs,←k3]
   generalize szR (c2 x.zS) b'=b'' at k1 k2
   unfold szR
   by_cases h4:(c3 x.zC:Int)≤b''
   ·rw[if_pos h4,decide_eq_false (by omega),zL]
   ·rw[if_neg h4];rfl
  ·omega
 ·omega
theorem zRo{x:zH}{b:Int}(h:zTL x)(b0:0≤b)(b1:b≤1048576):zUn x b=some (szR (zRn x) b):=by
 obtain⟨_,_,h3⟩:=h;unfold zUn zRn;rw[zHq h3 b0 b1,bs];unfold szR
 by_cases h4:(c3 x.zF:Int)≤b
 ·rw[if_pos h4,decide_eq_false (by omega),zL]
 ·rw[if_neg h4];rfl
theorem zOj{c:Nat}{b:Int}(b0:0≤b)(b1:b≤1048576):(decide (szR c b<0)=true)∨(decide (szR c b<0)=false∧0≤szR c b∧szR c b≤1048576∧c≤1048576):=by
 unfold szR
 by_cases h:(c:Int)≤b
 ·rw[if_pos h];exact .inr ⟨decide_eq_false (by omega),by omega,by omega,by omega⟩
 ·rw[if_neg h];exact .inl rfl
theorem zD5.of{x:SPr}(h:zLb x≤1048576):zD5 x:=by
 unfold zLb at h;exact⟨by simp only[S1];omega,by simp only[S2];omega,by simp only[S3];omega⟩
theorem zIk.of{x:zH}(h:zRn x≤1048576):zIk x:=h
theorem zHv{x:SPr}(h:zD5 x):zNj x=some x:=by
 unfold zNj;rw[zKY h.1,bs,zIP h.2.1,bs,zHr h.2.2,bs]
theorem zRp{x:zH}(h:zIk x):zNk x=some x:=by
 unfold zNk;rw[zHr h,bs]
theorem zRq{x:zH}(h:zIk x):zU7 x x=some true:=by
 unfold zU7;rw[zHs h,bs];simp
theorem zHw{x:SPr}(h:zD5 x):zU8 x x=some true:=by
 unfold zU8;rw[zKZ h.1,bs,zDc h.2.1,bs,zHs h.2.2,bs];simp
theorem zM6{x:List (List Int)}:sm c1 x≤c2 x:=by simp only[c2];omega
theorem zOl{α:Type}{f g:α→Nat}(h:∀x,f x≤g x):∀xs:List α,sm f xs≤sm g xs
 | []=>Jp _
 |x::xs=>by have:=zOl h xs;have:=h x;simp only[sm];omega
theorem zM7{x:List (List (List Int))}:sm (sm c1) x≤c3 x:=by
 have:=zOl (f:=sm c1) (g:=c2) (fun _=>zM6) x;simp only[c3];omega
theorem zM8{x:zH}{k:Int}(h:zIk x)(k0:0≤k)(k1:k≤1000000000):zUB x k=some (k+sm (sm c1) x.zF,zH.mk x.Prime x.Dim (m3 k x.zF)):=by
 have g3:=zM7 (x:=x.zF);have h':=h;simp only[zIk,S3]at h';unfold zUB;rw[zEC h k0 (by omega),bs]
end Go.Pl

namespace Go.Pl
open Go Go.Ab Go.Wk
def IsB(o:Option Bool)(P:Prop):Prop:=(o=some true∧P)∨(o=some false∧ ¬P)
theorem IsB.iff{o:Option Bool}{P Q:Prop}(h:IsB o P)(hpq:P↔Q):IsB o Q:=by
 rcases h with⟨h1,h2⟩|⟨h1,h2⟩
 ·exact .inl ⟨h1,hpq.1 h2⟩
 ·exact .inr ⟨h1,fun h=>h2 (hpq.2 h)⟩
theorem IsB.of_bool{b:Bool}{P:Prop}(h:b=true↔P):IsB (some b) P:=by
 cases b
 ·exact .inr ⟨rfl,fun hp=>by have:=h.2 hp;cases this⟩
 ·exact .inl ⟨rfl,h.1 rfl⟩
theorem chk{ρ:Type}{body:Int→Option (Int⊕(Unit⊕ρ))}(n i0:Nat)(hn:i0≤n)(P:Nat→Prop)(bad:Nat→ρ)
  (h:∀i,i0≤i→i<n→(∀j,i0≤j→j<i→P j)→(body (i:Int)=some (.inl ((i+1:Nat):Int))∧P i)∨(body (i:Int)=some (.inr (.inr (bad i)))∧ ¬P i))
  (he:body (n:Int)=some (.inr (.inl ()))):
  (zJ body (i0:Int)=some (.inl ())∧ ∀j,i0≤j→j<n→P j)∨ ∃i,i0≤i∧i<n∧zJ body (i0:Int)=some (.inr (bad i))∧ ¬P i:=by
 have key:∀k i,i0≤i→i+k=n→(∀j,i0≤j→j<i→P j)→(zJ body (i:Int)=some (.inl ())∧ ∀j,i0≤j→j<n→P j)∨ ∃q,i0≤q∧q<n∧zJ body (i:Int)=some (.inr (bad q))∧ ¬P q:=by
  intro k
  induction k with
  |zero=>
   intro i hi hk hp;obtain rfl:i=n:=by omega
   exact .inl ⟨by rw[xT,he],hp⟩
  |succ k ih=>
   intro i hi hk hp;rcases h i hi (by omega) hp with⟨h1,h2⟩|⟨h1,h2⟩
   ·have:=ih (i+1) (by omega) (by omega) fun j a b=>by
     rcases Jk j i with c|c
     ·exact hp j a c
     ·rw[show j=i from by omega];exact h2
    rw[xT,h1];exact this
   ·exact .inr ⟨i,hi,by omega,by rw[xT,h1],h2⟩
 exact key (n-i0) i0 (Jp _) (by omega) fun j a b=>by omega
theorem kV{f:Option Bool}{body:Int→Option (Int⊕(Unit⊕Bool))}(n:Nat)(P:Nat→Prop)
  (hf:f=(zJ body 0).bind fun r=>match r with|.inl _=>some true|.inr r=>some r)
  (h:∀i,i<n→(∀j,j<i→P j)→(body (i:Int)=some (.inl ((i+1:Nat):Int))∧P i)∨(body (i:Int)=some (.inr (.inr false))∧ ¬P i))
  (he:body (n:Int)=some (.inr (.inl ()))):IsB f (∀i,i<n→P i):=by
 rcases chk n 0 (Ke _) P (fun _=>false) (fun i _ hi hp=>h i hi fun j hj=>hp j (Ke _) hj) he with⟨h1,h2⟩|⟨i,_,hi,h1,h2⟩
 ·refine .inl ⟨?_,fun i hi=>h2 i (Ke _) hi⟩
  rw[hf];rw[show((0:Nat):Int)=0 from rfl]at h1;rw[h1,bs]
 ·refine .inr ⟨?_,fun hp=>h2 (hp i hi)⟩
  rw[hf];rw[show((0:Nat):Int)=0 from rfl]at h1;rw[h1,bs]
theorem tP{o:Option Bool}{P:Prop}{ρ:Type}{bad:ρ}{i:Nat}{g:Option (Int⊕(Unit⊕ρ))}(h:IsB o P)(hi:i<9223372036854775807)
  (hg:g=o.bind fun r=>cond (!r) (some (.inr (.inr bad))) ((rng ((i:Int)+1)).bind fun v=>some (.inl v))):(g=some (.inl ((i+1:Nat):Int))∧P)∨(g=some (.inr (.inr bad))∧ ¬P):=by
 subst hg;rcases h with⟨h1,h2⟩|⟨h1,h2⟩
 ·refine .inl ⟨?_,h2⟩
  rw[h1,bs,K9,zL,zE (by omega) (by omega),bs,cs]
 ·refine .inr ⟨?_,h2⟩
  rw[h1,bs,Kn,zQ]
theorem xV{i n:Nat}(h:i<n):decide ((i:Int)<(n:Int))=true:=decide_eq_true (by omega)
theorem wC{n:Nat}:decide ((n:Int)<(n:Int))=false:=decide_eq_false (by omega)
theorem kM(x a b:Int):IsB (zNo x a b) (a≤x∧x≤b):=by
 unfold zNo
 by_cases h:x≥a
 ·rw[decide_eq_true h,zQ];exact IsB.of_bool (by simp;omega)
 ·rw[decide_eq_false h,zL];exact .inr ⟨rfl,by omega⟩
theorem zC3(x a b:Int):IsB (zSm x a b) (a≤x∧x≤b):=kM x a b
def Prime(p:Int):Prop:=p=2∨p=3∨p=5∨p=7
theorem zBE(x:Int):IsB (zPH x) (Prime x):=by
 unfold zPH Prime
 by_cases h2:x=2
 ·subst h2;exact .inl ⟨rfl,.inl rfl⟩
 ·rw[show(x==2)=false from by simpa using h2,zL]
  by_cases h3:x=3
  ·subst h3;exact .inl ⟨rfl,.inr (.inl rfl)⟩
  ·rw[show(x==3)=false from by simpa using h3,zL]
   by_cases h5:x=5
   ·subst h5;exact .inl ⟨rfl,.inr (.inr (.inl rfl))⟩
   ·rw[show(x==5)=false from by simpa using h5,zL]
    exact IsB.of_bool (by simp;omega)
theorem zHx(x:Int):IsB (zUo x) (Prime x):=zBE x
abbrev at0(v:List Int)(i:Nat):Int:=v.getD i 0
theorem xD{v:List Int}{i:Nat}(h:i<v.length):ixO v (i:Int)=some (at0 v i):=by
 rw[kD h,at0,J2,J3 h];rfl
def zWt(os v:List Int):Prop:=v.length=os.length∧ ∀i,i<v.length→0≤at0 v i∧at0 v i≤at0 os i-1
def Exp(os v:List Int)(k:Nat):Prop:=zWt os v∧ ∀i,i≤k→at0 v i=0
def Os(os:List Int):Prop:=os.length≤9∧ ∀i,i<os.length→Prime (at0 os i)
theorem Prime.pos{p:Int}(h:Prime p):2≤p∧p≤7:=by unfold Prime at h;omega
theorem zF0{x:SPr}{v:List Int}(ho:Os x.zA):IsB (zUx x v) (zWt x.zA v):=by
 unfold zUx
 by_cases h:v.length=x.zA.length
 ·rw[show((v.length:Int) != (x.zA.length:Int))=false from by simp[h],zL]
  have h6:=ho.1;refine(kV v.length (fun i=>0≤at0 v i∧at0 v i≤at0 x.zA i-1) rfl (fun i hi _=>?_) ?_).iff ⟨fun g=>⟨h,g⟩,fun g=>g.2⟩
  ·have hp:=(ho.2 i (by omega)).pos
   refine tP (kM _ _ _) (by omega) ?_;unfold zOR;rw[xV hi,zQ,xD hi,bs,xD (by omega),bs,zE (by omega) (by omega),bs]
  ·unfold zOR
   rw[wC,zL]
 ·rw[show((v.length:Int) != (x.zA.length:Int))=true from by simp;omega,zQ]
  exact .inr ⟨rfl,fun g=>h g.1⟩
theorem zLd{v:List Int}(hl:v.length≤9):IsB (f_U v) (∀i,i<v.length→at0 v i=0):=by
 refine kV v.length (fun i=>at0 v i=0) rfl (fun i hi _=>?_) ?_
 ·refine tP (o:=some (at0 v i==0)) (IsB.of_bool (by simp)) (by omega) ?_
  unfold zPI;rw[xV hi,zQ,xD hi,bs,bs];rfl
 ·unfold zPI
  rw[wC,zL]
theorem zBZ{x:SPr}{k:Nat}{v:List Int}(ho:Os x.zA)(hk:k<x.zA.length):IsB (zS7 x k v) (Exp x.zA v k):=by
 have h6:=ho.1;unfold zS7;rcases zF0 (v:=v) ho with⟨h1,h2⟩|⟨h1,h2⟩
 ·have hl:=h2.1
  rw[h1,bs,zQ,zE (by omega) (by omega),bs];have hs:yA v 0 ((k:Int)+1)=some (v.take (k+1)):=by
   unfold yA;rw[if_pos (by omega)];simp only[Hq,G7,U7]
   congr 2
  rw[hs,bs];have hb:=zLd (v:=v.take (k+1)) (by rw[Jy];omega);have hiff:(∀i,i<(v.take (k+1)).length→at0 (v.take (k+1)) i=0)↔Exp x.zA v k:=by
   have e:∀i,i≤k→at0 (v.take (k+1)) i=at0 v i:=fun i hi=>by
    simp only[at0,J2,H1];rw[if_pos (by omega)]
   rw[Jy,Gd (by omega)];exact⟨fun g=>⟨h2,fun i hi=>by rw[←e i hi];exact g i (by omega)⟩,fun g i hi=>by rw[e i (by omega)];exact g.2 i (by omega)⟩
  rcases hb.iff hiff with⟨g1,g2⟩|⟨g1,g2⟩
  ·rw[g1,bs];exact .inl ⟨rfl,g2⟩
  ·rw[g1,bs];exact .inr ⟨rfl,g2⟩
 ·rw[h1,bs,zL]
  exact .inr ⟨rfl,fun g=>h2 g.1⟩
theorem zC4{os v:List Int}{k:Nat}(ho:Os os)(hk:k<os.length):IsB (zSn os v k) (Exp os v k):=by
 have h6:=ho.1;unfold zSn
 by_cases h:v.length=os.length
 ·rw[show((v.length:Int) != (os.length:Int))=false from by simp[h],zL]
  refine(kV v.length (fun i=>(0≤at0 v i∧at0 v i≤at0 os i-1)∧(i≤k→at0 v i=0)) rfl (fun i hi _=>?_) ?_).iff ⟨fun g=>⟨⟨h,fun i hi=>(g i hi).1⟩,fun i hi=>(g i (by omega)).2 hi⟩,fun g i hi=>⟨g.1.2 i hi,fun hk=>g.2 i hk⟩⟩
  ·have hp:=(ho.2 i (by omega)).pos
   unfold zON;rw[xV hi,zQ,xD hi,bs,xD (by omega),bs,zE (by omega) (by omega),bs];rcases zC3 (at0 v i) 0 (at0 os i-1)with⟨h1,h2⟩|⟨h1,h2⟩
   ·rw[h1,bs,K9,zL]
    by_cases h3:(i:Int)≤(k:Int)
    ·rw[decide_eq_true h3,zQ,bs]
     by_cases h4:at0 v i=0
     ·rw[show(at0 v i != 0)=false from by simp only[h4];rfl,zL,zE (by omega) (by omega),bs,cs]
      exact .inl ⟨rfl,h2,fun _=>h4⟩
     ·rw[show(at0 v i != 0)=true from by simpa using h4,zQ]
      exact .inr ⟨rfl,fun g=>h4 (g.2 (by omega))⟩
    ·rw[decide_eq_false h3,zL,zE (by omega) (by omega),bs,cs]
     exact .inl ⟨rfl,h2,fun g=>absurd (by omega) h3⟩
   ·rw[h1,bs,Kn,zQ]
    exact .inr ⟨rfl,fun g=>h2 g.1⟩
  ·unfold zON
   rw[wC,zL]
 ·rw[show((v.length:Int) != (os.length:Int))=true from by simp;omega,zQ]
  exact .inr ⟨rfl,fun g=>h g.1.1⟩
end Go.Pl

namespace Go.Pl
open Go Go.Ab Go.Wk
theorem zZ3{σ ρ:Type}{body:σ→Option (σ⊕(Unit⊕ρ))}(S:Nat→σ)(n i0:Nat)(hn:i0≤n)(P:Nat→Prop)(bad:Nat→ρ)
  (h:∀i,i0≤i→i<n→(∀j,i0≤j→j<i→P j)→(body (S i)=some (.inl (S (i+1)))∧P i)∨(body (S i)=some (.inr (.inr (bad i)))∧ ¬P i))
  (he:body (S n)=some (.inr (.inl ()))):
  (zJ body (S i0)=some (.inl ())∧ ∀j,i0≤j→j<n→P j)∨ ∃i,i0≤i∧i<n∧zJ body (S i0)=some (.inr (bad i))∧ ¬P i:=by
 have key:∀k i,i0≤i→i+k=n→(∀j,i0≤j→j<i→P j)→(zJ body (S i)=some (.inl ())∧ ∀j,i0≤j→j<n→P j)∨ ∃q,i0≤q∧q<n∧zJ body (S i)=some (.inr (bad q))∧ ¬P q:=by
  intro k
  induction k with
  |zero=>
   intro i hi hk hp;obtain rfl:i=n:=by omega
   exact .inl ⟨by rw[xT,he],hp⟩
  |succ k ih=>
   intro i hi hk hp;rcases h i hi (by omega) hp with⟨h1,h2⟩|⟨h1,h2⟩
   ·have:=ih (i+1) (by omega) (by omega) fun j a b=>by
     rcases Jk j i with c|c
     ·exact hp j a c
     ·rw[show j=i from by omega];exact h2
    rw[xT,h1];exact this
   ·exact .inr ⟨i,hi,by omega,by rw[xT,h1],h2⟩
 exact key (n-i0) i0 (Jp _) (by omega) fun j a b=>by omega
theorem zAb{a b:Int}(h:a=b):(a != b)=false:=by simp[h]
theorem zAc{a b:Int}(h:a≠b):(a != b)=true:=by simp[h]
def pr(os:List Int):Nat→Int
 |0=>1
 |i+1=>pr os i*at0 os i
def cp(os:List Int):Nat→Int
 |0=>1
 |i+1=>if cp os i≤729 then cp os i*at0 os i else cp os i
theorem zHy{os:List Int}:∀{i:Nat},(∀j,j<i→Prime (at0 os j))→1≤pr os i
 |0,_=>by simp[pr]
 |i+1,h=>by
  have h1:=zHy (os:=os) (i:=i) fun j hj=>h j (by omega)
  have h2:=(h i (by omega)).pos;simp only[pr];have:(1:Int)*1≤pr os i*at0 os i:=Lt h1 (by omega) (by omega) (by omega);omega
theorem zOm{os:List Int}{i:Nat}(h:∀j,j≤i→Prime (at0 os j)):pr os i≤pr os (i+1):=by
 have h1:=zHy (os:=os) (i:=i) fun j hj=>h j (by omega)
 have h2:=(h i (Jp _)).pos;simp only[pr];have:pr os i*1≤pr os i*at0 os i:=Jac (by omega) (by omega);omega
theorem zOn{os:List Int}{n:Nat}(h:∀j,j<n→Prime (at0 os j)):∀k,k≤n→pr os (n-k)≤pr os n
 |0,_=>Int.le_refl _
 |k+1,hk=>by
  have h1:=zOn h k (by omega);have h2:=zOm (os:=os) (i:=n-(k+1)) fun j hj=>h j (by omega)
  rw[show n-(k+1)+1=n-k from by omega]at h2;omega
theorem zRr{os:List Int}:∀{i:Nat},(∀j,j<i→Prime (at0 os j))→(cp os i=pr os i∧pr os i≤729∨729<cp os i∧cp os i≤5103∧729<pr os i)
 |0,_=>by simp[cp,pr]
 |i+1,h=>by
  have h0:∀j,j<i→Prime (at0 os j):=fun j hj=>h j (by omega)
  have h2:=(h i (by omega)).pos;have h3:=zOm (os:=os) (i:=i) fun j hj=>h j (by omega)
  have hpp:=zHy h0;simp only[cp];rcases zRr h0 with⟨h1,h4⟩|⟨h1,h4,h5⟩
  ·rw[h1,if_pos h4]
   have h6:pr os i*at0 os i≤729*7:=Lt h4 h2.2 (by omega) (by omega);simp only[pr]at h3 ⊢
   generalize pr os i*at0 os i=b at h3 h6 ⊢
   simp only[true_and];omega
  ·rw[if_neg (by omega)]
   omega
def zFW(x:SPr)(i:Nat):Prop:=Exp x.zA (x.zS.getD i []) i∧(x.zC.getD i []).length+i+1=x.zA.length∧ ∀j,j<(x.zC.getD i []).length→Exp x.zA ((x.zC.getD i []).getD j []) i
structure zFX (x:SPr):Prop where
 os:True∧ ∀i,i<x.zA.length→Prime (at0 x.zA i)
 pl:x.zS.length=x.zA.length
 cl:x.zC.length=x.zA.length
 tl:∀i,i<x.zA.length→zFW x i
structure Pres (x:SPr):Prop where
 os:Os x.zA
 pl:x.zS.length=x.zA.length
 cl:x.zC.length=x.zA.length
 tl:∀i,i<x.zA.length→zFW x i
theorem Pres.w{x:SPr}(h:Pres x):zFX x:=⟨⟨trivial,h.os.2⟩,h.pl,h.cl,h.tl⟩
structure zFY (x:SPr):Prop extends Pres x where
 n6:x.zA.length≤6
 pr:pr x.zA x.zA.length≤729
theorem yY{α:Type}{v:List α}{i:Nat}(d:α)(h:i<v.length):ixO v (i:Int)=some (v.getD i d):=by
 rw[kD h,J2,J3 h];rfl
theorem zM9{x:SPr}(ho:Os x.zA)(hp:x.zS.length=x.zA.length)(hc:x.zC.length=x.zA.length){i:Nat}(hi:i<x.zA.length):
  (zNq x i=some (.inl ((i+1:Nat):Int))∧zFW x i)∨(zNq x i=some (.inr (.inr false))∧ ¬zFW x i):=by
 have h6:=ho.1;unfold zNq;rw[xV hi,zQ,yY [] (by omega),bs];rcases zBZ (v:=x.zS.getD i []) ho hi with⟨h1,h2⟩|⟨h1,h2⟩
 ·rw[h1,bs,K9,zL,yY [] (by omega),bs,zE (by omega) (by omega),bs,zE (by omega) (by omega),bs]
  by_cases hl:(x.zC.getD i []).length+i+1=x.zA.length
  ·rw[zAb (by omega),zL,bs]
   rcases chk (body:=zS8 x i (x.zC.getD i [])) (x.zC.getD i []).length 0 (Ke _) (fun j=>Exp x.zA ((x.zC.getD i []).getD j []) i) (fun _=>false) (fun j _ hj _=>by
     refine tP (zBZ ho hi) (by omega) ?_;unfold zS8;rw[xV hj,zQ,yY [] hj,bs]) (by
     unfold zS8;rw[wC,zL])with⟨g1,g2⟩|⟨j,_,hj,g1,g2⟩
   ·rw[show((0:Nat):Int)=0 from rfl]at g1
    rw[g1,bs];simp only
    rw[zE (by omega) (by omega),bs,cs];exact .inl ⟨rfl,h2,hl,fun j hj=>g2 j (Ke _) hj⟩
   ·rw[show((0:Nat):Int)=0 from rfl]at g1
    rw[g1,bs];exact .inr ⟨rfl,fun g=>g2 (g.2.2 j hj)⟩
  ·rw[zAc (by omega),zQ]
   exact .inr ⟨rfl,fun g=>hl g.2.1⟩
 ·rw[h1,bs,Kn,zQ]
  exact .inr ⟨rfl,fun g=>h2 g.1⟩
theorem zMA{x:SPr}(ho:Os x.zA)(hp:x.zS.length=x.zA.length)(hc:x.zC.length=x.zA.length){i:Nat}(hi:i<x.zA.length):
  (zNl x i=some (.inl ((i+1:Nat):Int))∧zFW x i)∨(zNl x i=some (.inr (.inr false))∧ ¬zFW x i):=by
 have h6:=ho.1;unfold zNl;rw[xV hi,zQ,yY [] (by omega),bs];rcases zC4 (v:=x.zS.getD i []) ho hi with⟨h1,h2⟩|⟨h1,h2⟩
 ·rw[h1,bs,K9,zL,yY [] (by omega),bs,zE (by omega) (by omega),bs,zE (by omega) (by omega),bs]
  by_cases hl:(x.zC.getD i []).length+i+1=x.zA.length
  ·rw[zAb (by omega),zL]
   rcases chk (body:=zSp x i) (x.zC.getD i []).length 0 (Ke _) (fun j=>Exp x.zA ((x.zC.getD i []).getD j []) i) (fun _=>false) (fun j _ hj _=>by
     refine tP (zC4 ho hi) (by omega) ?_;unfold zSp;rw[yY [] (by omega),bs,xV hj,zQ,bs,yY [] hj,bs]) (by
     unfold zSp;rw[yY [] (by omega),bs,wC,zL])with⟨g1,g2⟩|⟨j,_,hj,g1,g2⟩
   ·rw[show((0:Nat):Int)=0 from rfl]at g1
    rw[g1,bs];simp only
    rw[zE (by omega) (by omega),bs,cs];exact .inl ⟨rfl,h2,hl,fun j hj=>g2 j (Ke _) hj⟩
   ·rw[show((0:Nat):Int)=0 from rfl]at g1
    rw[g1,bs];exact .inr ⟨rfl,fun g=>g2 (g.2.2 j hj)⟩
  ·rw[zAc (by omega),zQ]
   exact .inr ⟨rfl,fun g=>hl g.2.1⟩
 ·rw[h1,bs,Kn,zQ]
  exact .inr ⟨rfl,fun g=>h2 g.1⟩
theorem zLe{x:SPr}(h6:x.zA.length≤6):
  (zJ (zNp x) (1,0)=some (.inl ())∧Os x.zA∧pr x.zA x.zA.length≤729)∨(zJ (zNp x) (1,0)=some (.inr false)∧ ¬(Os x.zA∧pr x.zA x.zA.length≤729)):=by
 rcases zZ3 (body:=zNp x) (fun i=>(pr x.zA i,(i:Int))) x.zA.length 0 (Ke _) (fun i=>Prime (at0 x.zA i)∧pr x.zA (i+1)≤729) (fun _=>false) (fun i _ hi hpre=>by
   have hp:∀j,j<i→Prime (at0 x.zA j):=fun j hj=>(hpre j (Ke _) hj).1
   have hpp:=zHy hp;have hle:pr x.zA i≤729:=by
    cases i with
    |zero=>simp[pr]
    |succ i=>exact(hpre i (Ke _) (by omega)).2
   unfold zNp;rw[xV hi,zQ,xD hi,bs];rcases zBE (at0 x.zA i)with⟨h1,h2⟩|⟨h1,h2⟩
   ·have h3:=h2.pos
    have h4:pr x.zA i*at0 x.zA i≤729*7:=Lt hle h3.2 (by omega) (by omega);have h5:1*1≤pr x.zA i*at0 x.zA i:=Lt hpp (by omega) (by omega) (by omega);simp only
    rw[h1,bs,K9,zL,zE (by omega) (by omega),bs]
    by_cases h7:pr x.zA i*at0 x.zA i> 729
    ·rw[decide_eq_true h7,zQ]
     exact .inr ⟨rfl,fun g=>by have:=g.2;simp only[pr]at this;omega⟩
    ·rw[decide_eq_false h7,zL,bs,zE (by omega) (by omega),bs,cs]
     exact .inl ⟨rfl,h2,by simp only[pr];omega⟩
   ·rw[h1,bs,Kn,zQ]
    exact .inr ⟨rfl,fun g=>h2 g.1⟩) (by
   unfold zNp;rw[wC,zL])with⟨g1,g2⟩|⟨i,_,hi,g1,g2⟩
 ·refine .inl ⟨g1,⟨by omega,fun i hi=>(g2 i (Ke _) hi).1⟩,?_⟩
  cases hn:x.zA.length with
  |zero=>simp[pr]
  |succ n=>exact(g2 n (Ke _) (by omega)).2
 ·refine .inr ⟨g1,fun⟨h1,h2⟩=>g2 ⟨h1.2 i hi,?_⟩⟩
  have:=zOn (os:=x.zA) (n:=x.zA.length) h1.2 (x.zA.length-(i+1)) (by omega);rw[show x.zA.length-(x.zA.length-(i+1))=i+1 from by omega]at this;omega
theorem zJF{os:List Int}(ho:Os os):zUp os=some (cp os os.length):=by
 have h6:=ho.1;unfold zUp;rw[show(1,0)=(fun i=>(cp os i,(i:Int))) 0 from rfl,yB (body:=zLP os) (r:=cp os os.length) (fun i=>(cp os i,(i:Int))) os.length (fun i hi=>by
  have hp:=(ho.2 i hi).pos;have hc:=zRr (os:=os) (i:=i) fun j hj=>ho.2 j (by omega)
  have hpp:=zHy (os:=os) (i:=i) fun j hj=>ho.2 j (by omega)
  unfold zLP;rw[xV hi,zQ];simp only[cp]
  by_cases h:cp os i≤729
  ·have h4:cp os i*at0 os i≤729*7:=Lt h hp.2 (by omega) (by omega)
   have h5:1*1≤cp os i*at0 os i:=Lt (by omega) (by omega) (by omega) (by omega);rw[decide_eq_true h,zQ,xD hi,bs,zE (by omega) (by omega),bs,zE (by omega) (by omega),bs,cs,if_pos h]
  ·rw[decide_eq_false h,zL,zE (by omega) (by omega),bs,cs,if_neg h]) (by
  unfold zLP;rw[wC,zL]),bs]
theorem zDs{x:SPr}(hl:x.zA.length≤1048576):IsB (f_s x) (zFY x):=by
 unfold f_s
 by_cases h6:x.zA.length≤6
 ·rw[decide_eq_false (by omega),zL]
  by_cases hp:x.zS.length=x.zA.length
  ·rw[zAb (by omega),zL]
   by_cases hc:x.zC.length=x.zA.length
   ·rw[zAb (by omega),zL]
    rcases zLe h6 with⟨h1,h2,h3⟩|⟨h1,h2⟩
    ·rw[h1,bs]
     exact(kV (f:=(zJ (zNq x) 0).bind fun r=>match r with|.inl _=>some true|.inr r=>some r) x.zA.length (zFW x) rfl (fun i hi _=>zM9 h2 hp hc hi) (by
      unfold zNq;rw[wC,zL])).iff ⟨fun g=>⟨⟨h2,hp,hc,g⟩,h6,h3⟩,fun g=>g.tl⟩
    ·rw[h1,bs]
     exact .inr ⟨rfl,fun g=>h2 ⟨g.os,g.pr⟩⟩
   ·rw[zAc (by omega),zQ]
    exact .inr ⟨rfl,fun g=>hc g.cl⟩
  ·rw[zAc (by omega),zQ]
   exact .inr ⟨rfl,fun g=>hp g.pl⟩
 ·rw[decide_eq_true (by omega),zQ]
  exact .inr ⟨rfl,fun g=>h6 g.n6⟩
theorem zDt{x:SPr}(hl:x.zA.length≤1048576):IsB (f_u x) (zFY x):=by
 unfold f_u
 by_cases h6:x.zA.length≤6
 ·rw[decide_eq_false (by omega),zL]
  by_cases hp:x.zS.length=x.zA.length
  ·rw[zAb (by omega),zL]
   by_cases hc:x.zC.length=x.zA.length
   ·rw[zAb (by omega),zL]
    rcases chk (body:=zSo x) x.zA.length 0 (Ke _) (fun i=>Prime (at0 x.zA i)) (fun _=>false) (fun i _ hi _=>by
      refine tP (zHx _) (by omega) ?_;unfold zSo;rw[xV hi,zQ,xD hi,bs]) (by
      unfold zSo;rw[wC,zL])with⟨g1,g2⟩|⟨i,_,hi,g1,g2⟩
    ·rw[show((0:Nat):Int)=0 from rfl]at g1
     have ho:Os x.zA:=⟨by omega,fun i hi=>g2 i (Ke _) hi⟩;have hcp:=zRr (os:=x.zA) (i:=x.zA.length) ho.2;rw[g1,bs];simp only
     rw[zJF ho,bs]
     by_cases h7:cp x.zA x.zA.length> 729
     ·rw[decide_eq_true h7,zQ]
      exact .inr ⟨rfl,fun g=>by have:=g.pr;omega⟩
     ·rw[decide_eq_false h7,zL]
      exact(kV (f:=(zJ (zNl x) 0).bind fun r=>match r with|.inl _=>some true|.inr r=>some r) x.zA.length (zFW x) rfl (fun i hi _=>zMA ho hp hc hi) (by
       unfold zNl;rw[wC,zL])).iff ⟨fun g=>⟨⟨ho,hp,hc,g⟩,h6,by omega⟩,fun g=>g.tl⟩
    ·rw[show((0:Nat):Int)=0 from rfl]at g1
     rw[g1,bs];exact .inr ⟨rfl,fun g=>g2 (g.os.2 i hi)⟩
   ·rw[zAc (by omega),zQ]
    exact .inr ⟨rfl,fun g=>hc g.cl⟩
  ·rw[zAc (by omega),zQ]
   exact .inr ⟨rfl,fun g=>hp g.pl⟩
 ·rw[decide_eq_true (by omega),zQ]
  exact .inr ⟨rfl,fun g=>h6 g.n6⟩
end Go.Pl

namespace Go.Pl
open Go Go.Ab Go.Wk Go.Pc
def lvl(x:SPr)(i:Nat):Lvl:=⟨at0 x.zA i,(x.zS.getD i []).drop (i+1),(x.zC.getD i []).map (·.drop (i+1))⟩
def suf(x:SPr)(k:Nat):Pcp:=(L6 k (x.zA.length-k)).map (lvl x)
theorem yN(x:SPr)(k:Nat):(suf x k).length=x.zA.length-k:=by simp[suf]
theorem yF{x:SPr}{k:Nat}(h:k<x.zA.length):suf x k=lvl x k::suf x (k+1):=by
 unfold suf;rw[show x.zA.length-k=(x.zA.length-(k+1))+1 from by omega,Jdf,Jt]
theorem vR{x:SPr}{k:Nat}(h:x.zA.length≤k):suf x k=[]:=by
 unfold suf;rw[show x.zA.length-k=0 from by omega];rfl
theorem zAs{os v:List Int}{k:Nat}(h:Exp os v k)(hk:k<os.length):v=zeros (k+1)++v.drop (k+1):=by
 have h1:=h.1.1;apply L7;intro i;rw[Ky];simp only[zeros,Ji,Kz,Kq];split
 ·rename_i hi
  have h2:=h.2 i (by omega);rw[J3 (by omega)];rw[at0,J2,J3 (by omega)]at h2;simpa using h2
 ·rw[show k+1+(i-(k+1))=i from by omega]
theorem zWu{x:SPr}:∀(d k:Nat)(v:List Int),k+d=x.zA.length→v.length=d→(∀i,i<d→0≤at0 v i∧at0 v i≤at0 x.zA (k+i)-1)→V (suf x k) v
 |0,k,v,hk,hv,_=>by
  rw[vR (by omega)];simpa[V]using hv
 |d+1,k,v,hk,hv,h=>by
  rw[yF (by omega)]
  match v,hv with
  |a::v,hv=>
   have h0:=h 0 (by omega);simp only[at0,Lu,Gf]at h0;refine⟨⟨h0.1,by simp only[lvl,at0];omega⟩,zWu d (k+1) v (by omega) (by simpa using hv) fun i hi=>?_⟩;have:=h (i+1) (by omega);simp only[at0,U9]at this;rw[show k+1+i=k+(i+1)from by omega];exact this
theorem jK{x:SPr}{v:List Int}{k:Nat}(h:Exp x.zA v k)(hk:k<x.zA.length):V (suf x (k+1)) (v.drop (k+1)):=by
 have h1:=h.1.1;refine zWu (x.zA.length-(k+1)) (k+1) _ (by omega) (by rw[Jx];omega) fun i hi=>?_
 have:=h.1.2 (k+1+i) (by omega);have e:at0 (v.drop (k+1)) i=at0 v (k+1+i):=by simp only[at0,J2,Kq]
 rw[e];exact this
theorem zFX.ok{x:SPr}(h:zFX x):∀(d k:Nat),k+d=x.zA.length→Pc.Ok (suf x k)
 |0,k,hk=>by rw[vR (by omega)];simp only[Pc.Ok]
 |d+1,k,hk=>by
  rw[yF (by omega)];obtain⟨t1,t2,t3⟩:=h.tl k (by omega);refine⟨by simp only[lvl];have:=(h.os.2 k (by omega)).pos;omega,jK t1 (by omega),?_,fun c hc=>?_,zFX.ok h d (k+1) (by omega)⟩
  ·rw[yN];simp only[lvl,Jf];omega
  ·simp only[lvl,Jo]at hc
   obtain⟨u,hu,rfl⟩:=hc;obtain⟨j,hj,rfl⟩:=Ls.1 hu;have:=t3 j hj;rw[J2,J3 hj]at this;exact jK this (by omega)
theorem zFX.okAt{x:SPr}(h:zFX x){k:Nat}(hk:k≤x.zA.length):Pc.Ok (suf x k):=h.ok (x.zA.length-k) k (by omega)
theorem Pres.okAt{x:SPr}(h:Pres x){k:Nat}(hk:k≤x.zA.length):Pc.Ok (suf x k):=h.w.okAt hk
theorem zZ(n:Nat):(zeros n).length=n:=by simp[zeros]
theorem zFZ(k:Nat):zeros (k+1)=zeros k++[0]:=by simp[zeros,H2]
theorem zD6{k:Nat}{a b:Int}{v:Vec}:(zeros k++a::v).set k b=zeros k++b::v:=by
 rw[Hg _ _ (by rw[zZ];omega),zZ,Kr,Ku]
theorem zC5{k:Nat}{a:Int}{v:Vec}:ixO (zeros k++a::v) (k:Int)=some a:=by
 rw[uR,J8 (by rw[zZ];omega),zZ,Kr];rfl
theorem zBF{k:Nat}{v:Vec}:zeros k++0::v=zeros (k+1)++v:=by rw[zFZ,Ja];rfl
theorem jB{v:List Int}(h:v.length≤1000000):f_w v=some v:=by
 unfold f_w;rw[xK (by simp;omega),bs,Jj]
end Go.Pl

namespace Go.Pl
open Go Go.Ab Go.Wk Go.Pc
theorem zBr{m:Vec→Vec→Vec}:∀(cs:List Vec)(x:Vec)(i:Nat)(acc:Vec),i<cs.length→i<x.length→
  img m (cs.take (i+1)) (x.take (i+1)) acc=iter (at0 x i).toNat (fun v=>m v (cs.getD i [])) (img m (cs.take i) (x.take i) acc)
 | [],_,_,_,h,_=>by simp at h
 |_::_,[],_,_,_,h=>by simp at h
 |c::cs,a::x,0,acc,_,_=>by simp only[Je,K7,K8,img,at0,Lu]
 |c::cs,a::x,i+1,acc,h,h'=>by
  simp only[K7,img,at0,U9];exact zBr cs x i _ (by simpa using h) (by simpa using h')
theorem uW{α β:Type}{body:α×Int→Option ((α×Int)⊕α)}{S:β→Prop}(e:β→α)(g:β→β)(n:Int)(hn:0≤n)(hS:∀a,S a→S (g a))
  (h:∀a(i:Nat),S a→(i:Int)<n→body (e a,(i:Int))=some (.inl (e (g a),((i+1:Nat):Int))))(he:∀a,S a→body (e a,n)=some (.inr (e a))){a:β}(ha:S a):
  zJ body (e a,0)=some (e (iter n.toNat g a)):=by
 have hit:∀k,S (iter k g a):=fun k=>vL (S:=S) hS k ha
 exact yB (body:=body) (r:=e (iter n.toNat g a)) (fun i=>(e (iter i g a),(i:Int))) n.toNat (fun i hi=>by
  rw[h _ i (hit i) (by omega),vB]) (by
  rw[show((n.toNat:Nat):Int)=n from by omega];exact he _ (hit _))
theorem zLf{k i:Nat}{v:Vec}(h:i<v.length):ixO (zeros k++v) ((k+i:Nat):Int)=some (at0 v i):=by
 rw[uR,J8 (by rw[zZ];omega),zZ,show k+i-k=i from by omega,J3 h,at0,J2,J3 h];rfl
theorem zDW{x:SPr}(ho:Os x.zA):∀(d k:Nat)(v:List Int),k+d=x.zA.length→V (suf x k) v→v.length=d∧ ∀i,i<d→0≤at0 v i∧at0 v i<at0 x.zA (k+i)∧at0 v i≤6
 |0,k,v,hk,hv=>by
  rw[vR (by omega)]at hv;simp only[V]at hv;subst hv;exact⟨rfl,fun i hi=>by omega⟩
 |d+1,k,v,hk,hv=>by
  rw[yF (by omega)]at hv
  match v,hv with
  |a::v,hv=>
   obtain⟨h1,h2⟩:=zDW ho d (k+1) v (by omega) hv.2;refine⟨by simp[h1],fun i hi=>?_⟩;cases i with
   |zero=>
    have h3:=hv.1;simp only[lvl]at h3;have:=(ho.2 k (by omega)).pos;simp only[at0,Lu,Gf]at h3 this ⊢
    omega
   |succ i=>
    have:=h2 i (by omega);simp only[at0,U9]at this ⊢
    rw[show k+(i+1)=k+1+i from by omega];exact this
theorem zED{x:SPr}(h:Pres x){k i:Nat}(hk:k<x.zA.length)(hi:i<x.zA.length-(k+1)):
  ∃c,ixO x.zC (k:Int)=some (x.zC.getD k [])∧ixO (x.zC.getD k []) (i:Int)=some (zeros (k+1)++c)∧V (suf x (k+1)) c∧(lvl x k).cs.getD i []=c:=by
 obtain⟨t1,t2,t3⟩:=h.tl k hk;have hc:=h.cl;have ht:=t3 i (by omega);refine⟨((x.zC.getD k []).getD i []).drop (k+1),yY [] (by omega),?_,jK ht hk,?_⟩
 ·rw[yY [] (by omega),←zAs ht hk]
 ·simp only[lvl,J2,K1]
  rw[J3 (l:=x.zC[k]?.getD []) (by rw[J2]at t2;omega)];rfl
def FAt(x:SPr)(k:Nat)(g:SPr→Int→List Int→List Int→Option (List Int)):Prop:=
 ∀a b,V (suf x k) a→V (suf x k) b→g x k (zeros k++a) (zeros k++b)=some (zeros k++mul (suf x k) a b)
def FIm(x:SPr)(k:Nat)(g:SPr→Int→List Int→Option (List Int)):Prop:=
 ∀v,V (suf x (k+1)) v→g x k (zeros (k+1)++v)=some (zeros (k+1)++sig (suf x (k+1)) (lvl x k) v)
theorem zMB{x:SPr}(h:Pres x){k:Nat}(hk:k<x.zA.length){g:SPr→Int→List Int→List Int→Option (List Int)}(hg:FAt x (k+1) g):FIm x k (b_g g):=by
 intro v hv;have h6:=h.os.1;have ok:=h.okAt (k:=k+1) (by omega);obtain⟨hvl,hvr⟩:=zDW h.os (x.zA.length-(k+1)) (k+1) v (by omega) hv;have hlen:=yN x (k+1);have hcl:(lvl x k).cs.length=x.zA.length-(k+1):=by
  have:=h.okAt (k:=k) (by omega);rw[yF hk]at this;rw[this.2.2.1,hlen]
 have hcs:∀c∈(lvl x k).cs,V (suf x (k+1)) c:=by
  have:=h.okAt (k:=k) (by omega);rw[yF hk]at this;exact this.2.2.2.1
 have hA:∀i,V (suf x (k+1)) (img (mul (suf x (k+1))) ((lvl x k).cs.take i) (v.take i) (zeros (suf x (k+1)).length)):=fun i=>
  jA (xC ok) _ _ (fun c hc=>hcs c (Gz hc)) (wP ok)
 unfold b_g;rw[wJ (by omega),bs,zE (by omega) (by omega),bs,cs];have hz:J1 x.zA.length (0:Int)=zeros (k+1)++zeros (suf x (k+1)).length:=by
  rw[hlen];simp only[zeros,Ju];congr 1;omega
 rw[hz];have:=yB (body:=zSr g x k (zeros (k+1)++v)) (r:=zeros (k+1)++sig (suf x (k+1)) (lvl x k) v)
  (fun i=>(zeros (k+1)++img (mul (suf x (k+1))) ((lvl x k).cs.take i) (v.take i) (zeros (suf x (k+1)).length),((k+1+i:Nat):Int))) (x.zA.length-(k+1)) (fun i hi=>by
  have hr:=hvr i hi;obtain⟨c,c1,c2,c3,c4⟩:=zED h hk hi;unfold zSr;rw[decide_eq_true (by simp only;omega),zQ];rw[uW (S:=V (suf x (k+1))) (body:=zSq g x k (zeros (k+1)++v) (zeros (k+1)++img (mul (suf x (k+1))) ((lvl x k).cs.take i) (v.take i) (zeros (suf x (k+1)).length),((k+1+i:Nat):Int))) (fun u=>zeros (k+1)++u) (fun u=>mul (suf x (k+1)) u c) (at0 v i) hr.1 (fun u hu=>xC ok hu c3) (fun u q hu hq=>by
   unfold zSq;simp only
   rw[zLf (by omega),bs,decide_eq_true hq,zQ,zE (by omega) (by omega),bs,c1,bs,zE (by omega) (by omega),bs,zE (by omega) (by omega),bs,
    show(((k+1+i:Nat):Int)-(k:Int)-1)=(i:Int)from by omega,c2,bs,cs,hg u c hu c3,bs,zE (by omega) (by omega),bs,cs]) (fun u hu=>by
   unfold zSq;simp only
   rw[zLf (by omega),bs,decide_eq_false (by omega),zL]) (hA i),bs,zE (by omega) (by omega),bs,cs]
  rw[zBr _ _ _ _ (by omega) (by omega),c4];rfl) (by
  unfold zSr;rw[decide_eq_false (by simp only;omega),zL,Jr (by omega),Jr (by omega)];rfl)
 simp only[K8,img]at this;rw[this,bs]
theorem zTM{x:SPr}(h:Pres x){k:Nat}(hk:k<x.zA.length){g:SPr→Int→List Int→List Int→Option (List Int)}{gi:SPr→Int→List Int→Option (List Int)}(hg:FAt x (k+1) g)(hi:FIm x k gi):FAt x k (b_a gi g):=by
 intro a b ha hb;have h6:=h.os.1;have hp:=(h.os.2 k hk).pos;have ok:=h.okAt (k:=k+1) (by omega);have ok0:=h.okAt (k:=k) (by omega);obtain⟨hal,har⟩:=zDW h.os (x.zA.length-k) k a (by omega) ha;obtain⟨hbl,hbr⟩:=zDW h.os (x.zA.length-k) k b (by omega) hb;rw[yF hk]at ha hb ok0;obtain⟨a0,a,rfl⟩:∃a0 a',a=a0::a':=by cases a with|nil=>simp at hal;omega|cons p q=>exact⟨p,q,rfl⟩
 obtain⟨b0,b,rfl⟩:∃a0 a',b=a0::a':=by cases b with|nil=>simp at hbl;omega|cons p q=>exact⟨p,q,rfl⟩
 obtain⟨⟨a1,a2⟩,ha⟩:=ha;obtain⟨⟨b1,b2⟩,hb⟩:=hb;have hor:(lvl x k).o=at0 x.zA k:=rfl;rw[hor]at a2 b2;unfold b_a;rw[decide_eq_false (by omega),zL,jB (by simp[zZ]at hal ⊢;omega),bs,jB (by simp[zZ]at hbl ⊢;omega),bs,zC5,bs,zC5,bs,Jg,zD6,zD6,zBF,zBF];have hsig:∀u,V (suf x (k+1)) u→V (suf x (k+1)) (sig (suf x (k+1)) (lvl x k) u):=fun u hu=>zC0 ok0 hu
 have hit:V (suf x (k+1)) (iter b0.toNat (sig (suf x (k+1)) (lvl x k)) a):=vL hsig _ ha;rw[uW (S:=V (suf x (k+1))) (fun u=>zeros (k+1)++u) (sig (suf x (k+1)) (lvl x k)) b0 b1 hsig (fun u q hu hq=>by
   unfold zUq;simp only
   rw[zC5,bs,decide_eq_true hq,zQ,hi u hu,bs,zE (by omega) (by omega),bs,cs]) (fun u hu=>by
   unfold zUq;simp only
   rw[zC5,bs,decide_eq_false (by omega),zL]) ha,bs,zE (by omega) (by omega),bs,cs,hg _ _ hit hb,bs,bs,bs,zE (by omega) (by omega),bs,xD hk,bs]
 have hm:=xC ok hit hb;have hml:=(zDW h.os (x.zA.length-(k+1)) (k+1) _ (by omega) hm).1;have own:∀u,V (suf x (k+1)) u→f_w (zeros (k+1)++u)=some (zeros (k+1)++u):=fun u hu=>jB (by
  have:=(zDW h.os (x.zA.length-(k+1)) (k+1) _ (by omega) hu).1;rw[J5,zZ];omega)
 rw[yF hk,yV,hor]
 by_cases hge:a0+b0≥at0 x.zA k
 ·have t1:=(h.tl k hk).1
  have hw:=jK t1 hk;have hwl:=h.pl;rw[decide_eq_true hge,zQ,if_pos hge,bs,zE (by omega) (by omega),bs,bs,yY [] (by omega),bs,zAs t1 hk,hg _ _ hw hm,bs,own _ (xC ok hw hm),bs];rw[←zBF,zC5,bs,zD6];rfl
 ·rw[decide_eq_false hge,zL,if_neg hge,own _ hm,bs,←zBF,zC5,bs,zD6]
theorem zF1{x:SPr}(h:Pres x):∀(d k:Nat),k+d=x.zA.length→(∀m,2*d+1≤m→FAt x k (zNn m))∧(1≤d→ ∀m,2*d≤m→FIm x k (zNm m))
 |0,k,hk=>by
  refine⟨fun m hm a b ha hb=>?_,fun h=>by omega⟩;have h6:=h.os.1;obtain⟨m,rfl⟩:∃m',m=m'+1:=⟨m-1,by omega⟩;show b_a _ _ x k _ _=_;unfold b_a;rw[decide_eq_true (by omega),zQ,wJ (by omega),bs,vR (by omega)];simp only[mul,J9,zeros];rw[show k=x.zA.length from by omega]
 |d+1,k,hk=>by
  obtain⟨h1,h2⟩:=zF1 h d (k+1) (by omega);have hI:∀m,2*(d+1)≤m→FIm x k (zNm m):=fun m hm=>by
   obtain⟨m,rfl⟩:∃m',m=m'+1:=⟨m-1,by omega⟩;exact zMB h (by omega) (h1 m (by omega))
  refine⟨fun m hm=>?_,fun _=>hI⟩;obtain⟨m,rfl⟩:∃m',m=m'+1:=⟨m-1,by omega⟩;exact zTM h (by omega) (h1 m (by omega)) (hI m (by omega))
theorem zOo{x:SPr}(h:Pres x){k:Nat}(hk:k≤x.zA.length):FAt x k f_a:=fun a b ha hb=>
 zBn (2*(x.zA.length-k)+1) fun m hm=>(zF1 h (x.zA.length-k) k (by omega)).1 m hm a b ha hb
theorem zMC{x:SPr}(h:Pres x){k:Nat}(hk:k<x.zA.length):FIm x k f_g:=fun v hv=>
 zBn (2*(x.zA.length-k)) fun m hm=>(zF1 h (x.zA.length-k) k (by omega)).2 (by omega) m hm v hv
end Go.Pl

namespace Go.Pl
open Go Go.Ab Go.Wk Go.Pc
theorem zC6:∀{P Q:Pcp},Q<:+P→wR P→wR Q
 | [],Q,h,_=>by
  have:=Jc0.1 h;subst this;simp only[wR]
 |l::P,Q,h,hc=>by
  rcases Jay.1 h with rfl|h
  ·exact hc
  ·exact zC6 h hc.1
theorem zIQ:∀{P Q:Pcp},Q<:+P→Pc.Ok P→Pc.Ok Q
 | [],Q,h,_=>by
  have:=Jc0.1 h;subst this;simp only[Pc.Ok]
 |l::P,Q,h,hc=>by
  rcases Jay.1 h with rfl|h
  ·exact hc
  ·exact zIQ h hc.2.2.2.2
theorem zMD(x:SPr)(k:Nat):suf x (k+1)<:+suf x k:=by
 by_cases h:k<x.zA.length
 ·rw[yF h];exact Ql _ _
 ·rw[vR (by omega)];exact List.nil_suffix
theorem zEE{x:SPr}{k:Nat}(h:wR (suf x k)):∀i,wR (suf x (k+i))
 |0=>h
 |i+1=>zC6 (zMD x (k+i)) (zEE h i)
theorem zHz{x:SPr}(h:Pres x){k:Nat}(hk:k≤x.zA.length)(hc:wR (suf x k)):Grp (V (suf x k)) (mul (suf x k)) (zeros (suf x k).length):=zC1 _ (h.okAt hk) hc
theorem zGt{x:SPr}:∀(i k:Nat)(v:Vec),k+i≤x.zA.length→V (suf x k) v→ ∃q v',v=q++v'∧q.length=i∧V (suf x (k+i)) v'∧
  ∀a b,V (suf x (k+i)) a→V (suf x (k+i)) b→mul (suf x k) (q++a) (zeros i++b)=q++mul (suf x (k+i)) a b
 |0,k,v,_,hv=>⟨[],v,rfl,rfl,hv,fun a b _ _=>rfl⟩
 |i+1,k,v,hk,hv=>by
  rw[yF (by omega)]at hv
  match v,hv with
  |e::v,hv=>
   obtain⟨q,v',h1,h2,h3,h4⟩:=zGt i (k+1) v (by omega) hv.2;rw[show k+1+i=k+(i+1)from by omega]at h3 h4;refine⟨e::q,v',by rw[h1];rfl,by simp[h2],h3,fun a b ha hb=>?_⟩;have he:=hv.1;rw[yF (by omega)];show mul (lvl x k::suf x (k+1)) (e::(q++a)) (0::(zeros i++b))=_;rw[yV,H8,if_neg (by omega)];simp only[Hq,iter];rw[h4 a b ha hb];rfl
def FTV(x:SPr)(k:Nat)(g:SPr→List Int→List Int→Option (List Int)):Prop:=
 ∀p v u,p.length=k→V (suf x k) v→V (suf x k) u→g x (p++v) (zeros k++u)=some (p++mul (suf x k) v u)
def FTG(x:SPr)(k:Nat)(g:SPr→List Int→Int→Option (List Int)):Prop:=
 ∀p v,p.length=k→V (suf x k) v→g x (p++v) (k:Int)=some (p++mul (suf x k) v (1::zeros (x.zA.length-(k+1))))
theorem zIR{x:SPr}(h:Pres x){k:Nat}(hk:k<x.zA.length){g:SPr→List Int→List Int→Option (List Int)}(hg:FTV x (k+1) g){t:Vec}(ht:V (suf x (k+1)) t)
  {body1:List Int×Int→Int→List Int×Int→Option ((List Int×Int)⊕List Int)}{body2:List Int×Int→Option ((List Int×Int)⊕List Int)}
  (hb2:∀s,body2 s=cond (decide (s.2<(t.length:Int))) ((ixO t s.2).bind fun v17=>(zJ (body1 s v17) (s.1,0)).bind fun r=>(rng (s.2+1)).bind fun v=>some (.inl (r,v))) (some (.inr s.1)))
  (hb1:∀s v q,body1 s v q=cond (decide (q.2<v)) ((ixO x.zC (k:Int)).bind fun cl=>(ixO cl s.2).bind fun c=>(g x q.1 c).bind fun r=>(rng (q.2+1)).bind fun w=>some (.inl (r,w))) (some (.inr q.1)))
  {p:Vec}(hp:p.length=k+1){u:Vec}(hu:V (suf x (k+1)) u):zJ body2 (p++u,0)=some (p++img (mul (suf x (k+1))) (lvl x k).cs t u):=by
 have h6:=h.os.1;have ok:=h.okAt (k:=k+1) (by omega);have ok0:=h.okAt (k:=k) (by omega);rw[yF hk]at ok0;obtain⟨htl,htr⟩:=zDW h.os (x.zA.length-(k+1)) (k+1) t (by omega) ht;have hcl:(lvl x k).cs.length=x.zA.length-(k+1):=by rw[ok0.2.2.1,yN]
 have hA:∀i,V (suf x (k+1)) (img (mul (suf x (k+1))) ((lvl x k).cs.take i) (t.take i) u):=fun i=>
  jA (xC ok) _ _ (fun c hc=>ok0.2.2.2.1 c (Gz hc)) hu
 have:=yB (body:=body2) (r:=p++img (mul (suf x (k+1))) (lvl x k).cs t u) (fun i=>(p++img (mul (suf x (k+1))) ((lvl x k).cs.take i) (t.take i) u,(i:Int))) t.length (fun i hi=>by
  have hr:=htr i (by omega);obtain⟨c,c1,c2,c3,c4⟩:=zED h hk (i:=i) (by omega);rw[hb2];simp only
  rw[xV hi,zQ,xD hi,bs];rw[uW (S:=V (suf x (k+1))) (fun u=>p++u) (fun u=>mul (suf x (k+1)) u c) (at0 t i) hr.1 (fun u hu=>xC ok hu c3) (fun u q hu hq=>by
   rw[hb1];simp only
   rw[decide_eq_true hq,zQ,c1,bs,c2,bs,hg p u c hp hu c3,bs,zE (by omega) (by omega),bs,cs]) (fun u hu=>by
   rw[hb1];simp only
   rw[decide_eq_false (by omega),zL]) (hA i),bs,zE (by omega) (by omega),bs,cs]
  rw[zBr _ _ _ _ (by omega) (by omega),c4]) (by
  rw[hb2];simp only
  rw[wC,zL,Jr (by omega),Jr (by omega)])
 simp only[K8,img]at this;exact this
theorem zVn{p v:Vec}{a:Int}{k:Nat}(hp:p.length=k):ixO (p++a::v) (k:Int)=some a:=by
 rw[uR,J8 (by omega),hp,Kr];rfl
theorem p_set{p v:Vec}{a b:Int}{k:Nat}(hp:p.length=k):(p++a::v).set k b=p++b::v:=by
 rw[Hg _ _ (by omega),hp,Kr,Ku]
theorem zLg{x:SPr}(h:Pres x){k:Nat}(hk:k<x.zA.length)(hc:wR (suf x (k+1))){g:SPr→List Int→List Int→Option (List Int)}(hg:FTV x (k+1) g):FTG x k (b_b g):=by
 intro p v hp hv;have h6:=h.os.1;have G:=zHz h (k:=k+1) (by omega) hc;have ok:=h.okAt (k:=k+1) (by omega);have ok0:=h.okAt (k:=k) (by omega);obtain⟨hvl,hvr⟩:=zDW h.os (x.zA.length-k) k v (by omega) hv;rw[yF hk]at hv ok0;obtain⟨e,t,rfl⟩:∃a0 a',v=a0::a':=by cases v with|nil=>simp at hvl;omega|cons p q=>exact⟨p,q,rfl⟩
 obtain⟨⟨e1,e2⟩,ht⟩:=hv;have hor:(lvl x k).o=at0 x.zA k:=rfl;rw[hor]at e2;have hpr:=(h.os.2 k hk).pos;have htl:=(zDW h.os (x.zA.length-(k+1)) (k+1) t (by omega) ht).1;have hsl:=yN x (k+1);unfold b_b;have hs:yA (p++e::t) ((k+1:Nat):Int) ((p++e::t).length:Int)=some t:=by
  unfold yA;rw[if_pos (by simp only[J5,J7];omega)];have e3:(p++e::t).drop (k+1)=t:=by
   rw[Jbw,Jbb (by omega),hp,show k+1-k=1 from by omega];rfl
  simp only[Jg,e3,J5,J7];rw[Jr (by omega)]
 have hclone:f_L t=some t:=by
  unfold f_L;rw[xK (by simp;omega),bs,Jj]
 rw[zE (by omega) (by omega),bs,cs,hs,bs,hclone,bs];have hz:=yB (body:=zS9 k t) (r:=(p++[e])++zeros t.length) (fun i=>((p++[e])++(zeros i++t.drop i),(i:Int))) t.length (fun i hi=>by
  have hl:((p++[e])++zeros i).length=k+1+i:=by simp[zZ,hp];omega
  unfold zS9;simp only
  rw[xV hi,zQ,zE (by omega) (by omega),bs,zE (by omega) (by omega),bs,show(k:Int)+1+(i:Int)=((k+1+i:Nat):Int)from by omega,uR,←Ja,J8 (by omega),hl,Kr,
   H7 hi,Ja9,bs,zE (by omega) (by omega),bs,cs,Jg,Hg _ _ (by omega),hl,Kr,Ku,zFZ]
  simp only[Ja,Jn,Jj]) (by
  unfold zS9;simp only
  rw[wC,zL,Jbv,J9])
 simp only[zeros,Hc,G7,Jj,Ja,Lv]at hz;rw[show((0:Nat):Int)=0 from rfl]at hz;rw[hz,bs,Jg,zVn hp,bs,zE (by omega) (by omega),bs,bs,p_set hp,zVn hp,bs,xD hk,bs];have hz2:J1 t.length (0:Int)=zeros (suf x (k+1)).length:=by rw[hsl,htl];rfl
 rw[yF hk,yV,hor];have hone:mul (suf x (k+1)) (iter (1:Int).toNat (sig (suf x (k+1)) (lvl x k)) t) (zeros (x.zA.length-(k+1)))=sig (suf x (k+1)) (lvl x k) t:=by
  rw[←hsl];show mul _ (sig (suf x (k+1)) (lvl x k) t) _=_;exact G.oner (zC0 ok0 ht)
 rw[hone,hz2]
 by_cases heq:e+1=at0 x.zA k
 ·have t1:=(h.tl k hk).1
  have hw:=jK t1 hk;have hwl:=h.pl;have hp1:(p++[(0:Int)]).length=k+1:=by simp[hp]
  rw[show(e+1==at0 x.zA k)=true from by simpa using heq,zQ,if_pos (by omega),bs,yY [] (by omega),bs,p_set hp];have hz3:p++0::zeros (suf x (k+1)).length=(p++[0])++zeros (suf x (k+1)).length:=by simp
  rw[hz3,zAs t1 hk,hg _ _ _ hp1 G.ein hw,bs,G.onel hw];rw[zIR (body1:=zWV g x k) (body2:=zWW g x k t) h hk hg ht (fun _=>rfl) (fun _ _ _=>rfl) hp1 hw,bs];rw[zEB G.toMon _ _ ok0.2.2.2.1 hw,show e+1-at0 x.zA k=0 from by omega];simp only[Ja,Lv];rfl
 ·have hp1:(p++[e+1]).length=k+1:=by simp[hp]
  rw[show(e+1==at0 x.zA k)=false from by simpa using heq,zL,if_neg (by omega)];have hz3:p++(e+1)::zeros (suf x (k+1)).length=(p++[e+1])++zeros (suf x (k+1)).length:=by simp
  rw[hz3,zIR (body1:=zWX g x k) (body2:=zWY g x k t) h hk hg ht (fun _=>rfl) (fun _ _ _=>rfl) hp1 G.ein,bs];simp only[Ja,Lv];rfl
theorem zAm{n i:Nat}(h:i<n):xJ n i=zeros i++1::zeros (n-(i+1)):=by
 have:zeros n=zeros i++0::zeros (n-(i+1)):=by
  simp only[zeros];rw[←Jq,Ju]
  congr 1;omega
 rw[xJ,this,zD6]
theorem zEF(n:Nat):(wL n).length=n:=by simp[wL]
theorem zH0{n i:Nat}(h:i<n):(wL n).getD i []=xJ n i:=by
 simp[wL,J2,h]
theorem zRs{x:SPr}(h:Pres x){k:Nat}(hk:k≤x.zA.length)(hc:wR (suf x k)){g:SPr→List Int→Int→Option (List Int)}(hg:∀j,k≤j→j<x.zA.length→FTG x j g):FTV x k (b_c g):=by
 intro p v u hp hv hu;have h6:=h.os.1;have G:=zHz h hk hc;have ok:=h.okAt hk;obtain⟨hul,hur⟩:=zDW h.os (x.zA.length-k) k u (by omega) hu;have hsl:=yN x k;have hV1:∀j,j≤x.zA.length→j<x.zA.length→V (suf x j) (1::zeros (x.zA.length-(j+1))):=fun j hj hj'=>by
  rw[yF hj'];have:=(h.os.2 j hj').pos;refine⟨⟨by omega,by show 1<at0 x.zA j;omega⟩,?_⟩;rw[←yN];exact wP (h.okAt (by omega))
 have hUn:∀i,i<x.zA.length-k→V (suf x k) (xJ (x.zA.length-k) i):=fun i hi=>by
  rw[←hsl]at hi ⊢
  exact zCz ok hi
 have hUs:∀c∈wL (x.zA.length-k),V (suf x k) c:=fun c hc=>by
  simp only[wL,Jo,Kk]at hc;obtain⟨i,hi,rfl⟩:=hc;exact hUn i hi
 have hA:∀i,V (suf x k) (img (mul (suf x k)) ((wL (x.zA.length-k)).take i) (u.take i) v):=fun i=>
  jA (xC ok) _ _ (fun c hc=>hUs c (Gz hc)) hv
 have hgen:∀i w,i<x.zA.length-k→V (suf x k) w→g x (p++w) ((k+i:Nat):Int)=some (p++mul (suf x k) w (xJ (x.zA.length-k) i)):=fun i w hi hw=>by
  obtain⟨q,w',h1,h2,h3,h4⟩:=zGt i k w (by omega) hw;have h5:=hg (k+i) (by omega) (by omega) (p++q) w' (by simp[hp,h2]) h3;rw[Ja,←h1]at h5;rw[h5,zAm hi,h1,show x.zA.length-k-(i+1)=x.zA.length-(k+i+1)from by omega,h4 w' _ h3 (hV1 (k+i) (by omega) (by omega)),Ja]
 unfold b_c;have hul2:(zeros k++u).length=x.zA.length:=by simp[zZ];omega
 have:=yB (body:=zSB g x (zeros k++u)) (r:=p++mul (suf x k) v u) (fun j=>(p++img (mul (suf x k)) ((wL (x.zA.length-k)).take (j-k)) (u.take (j-k)) v,(j:Int))) x.zA.length (fun j hj=>by
  unfold zSB;simp only
  rw[hul2,xV hj,zQ];rcases Jk j k with hjk|hjk
  ·have e0:ixO (zeros k++u) (j:Int)=some 0:=by
    rw[uR,Jl (by rw[zZ];exact hjk)];simp[zeros,hjk]
   rw[e0,bs,show j-k=0 from by omega,show j+1-k=0 from by omega];rw[xT];unfold zSA;simp only
   rw[show decide ((0:Int)<0)=false from rfl,zL];simp only
   rw[bs,zE (by omega) (by omega),bs,cs]
  ·obtain⟨i,rfl⟩:∃i,j=k+i:=⟨j-k,by omega⟩
   have hi:i<x.zA.length-k:=by omega
   have hr:=hur i hi;rw[zLf (by omega),bs,show k+i-k=i from by omega,show k+i+1-k=i+1 from by omega];rw[uW (S:=V (suf x k)) (fun w=>p++w) (fun w=>mul (suf x k) w (xJ (x.zA.length-k) i)) (at0 u i) hr.1 (fun w hw=>xC ok hw (hUn i hi)) (fun w q hw hq=>by
    unfold zSA;simp only
    rw[decide_eq_true hq,zQ,hgen i w hi hw,bs,zE (by omega) (by omega),bs,cs]) (fun w hw=>by
    unfold zSA;simp only
    rw[decide_eq_false (by omega),zL]) (hA i),bs,zE (by omega) (by omega),bs,cs]
   rw[zBr _ _ _ _ (by rw[zEF];exact hi) (by omega),zH0 hi]) (by
  unfold zSB;simp only
  rw[hul2,wC,zL,Jr (by rw[zEF];omega),Jr (by omega),zEB G.toMon _ _ hUs hv];have hn:=normal (suf x k) ok (fun Q hQ=>(zC1 Q (zIQ hQ ok) (zC6 hQ hc)).toMon) u hu;rw[hsl]at hn ⊢
  rw[hn])
 simp only[Jcu,K8,img]at this;rw[show((0:Nat):Int)=0 from rfl]at this;rw[this,bs]
theorem zF2{x:SPr}(h:Pres x):∀(d k:Nat),k+d=x.zA.length→wR (suf x k)→(∀m,2*d+1≤m→FTV x k (zPJ m))
 |d,k,hk,hc=>fun m hm=>by
  obtain⟨m,rfl⟩:∃m',m=m'+1:=⟨m-1,by omega⟩;refine zRs h (by omega) hc fun j hj hjn=>?_
  obtain⟨m,rfl⟩:∃m',m=m'+1:=⟨m-1,by omega⟩;have hcj:wR (suf x (j+1)):=by
   have:=zEE hc (j+1-k)
   rwa [show k+(j+1-k)=j+1 from by omega]at this
  exact zLg h hjn hcj (zF2 h (x.zA.length-(j+1)) (j+1) (by omega) hcj m (by omega))
 termination_by d=>d
 decreasing_by omega
theorem zTN{x:SPr}(h:Pres x){k:Nat}(hk:k≤x.zA.length)(hc:wR (suf x k)):FTV x k f_c:=fun p v u hp hv hu=>
 zBn (2*(x.zA.length-k)+1) fun m hm=>zF2 h (x.zA.length-k) k (by omega) hc m hm p v u hp hv hu
theorem zTO{x:SPr}(h:Pres x){k:Nat}(hk:k<x.zA.length)(hc:wR (suf x (k+1))):FTG x k f_b:=fun p v hp hv=>
 zBn (2*(x.zA.length-k)) fun m hm=>by
  obtain⟨m,rfl⟩:∃m',m=m'+1:=⟨m-1,by omega⟩;exact zLg h hk hc (zF2 h (x.zA.length-(k+1)) (k+1) (by omega) hc m (by omega)) p v hp hv
end Go.Pl

namespace Go.Pl
open Go Go.Ab Go.Wk Go.Pc
abbrev fv(k:Nat)(v:Vec):Vec:=zeros k++v
section
variable {x:SPr} (h:Pres x) {k:Nat} (hk:k≤x.zA.length) (hc:wR (suf x k))
 include h hk
theorem vC{v:Vec}(hv:V (suf x k) v):v.length=x.zA.length-k:=(zDW h.os (x.zA.length-k) k v (by omega) hv).1
theorem zC7{v:Vec}(hv:V (suf x k) v):(fv k v).length=x.zA.length:=by
 rw[J5,zZ,vC h hk hv];omega
theorem zOp:J1 x.zA.length (0:Int)=fv k (zeros (suf x k).length):=by
 have _:=h;rw[yN];simp only[fv,zeros,Ju];congr 1;omega
 include hc
theorem zME{i:Nat}(hi:i<x.zA.length-k):V (suf x k) (xJ (x.zA.length-k) i):=by
 have _:=hc;have:=yN x k;rw[←this]at hi ⊢
 exact zCz (h.okAt hk) hi
theorem zLh{p:Vec}(hp:p.length=k){i:Nat}(hi:i<x.zA.length-k){w:Vec}(hw:V (suf x k) w):f_b x (p++w) ((k+i:Nat):Int)=some (p++mul (suf x k) w (xJ (x.zA.length-k) i)):=by
 obtain⟨q,w',h1,h2,h3,h4⟩:=zGt i k w (by omega) hw;have hcj:wR (suf x (k+i+1)):=zEE hc (i+1);have h5:=zTO h (k:=k+i) (by omega) hcj (p++q) w' (by simp[hp,h2]) h3;have h7:V (suf x (k+i)) (1::zeros (x.zA.length-(k+i+1))):=by
  have hj':k+i<x.zA.length:=by omega
  rw[yF hj'];have:=(h.os.2 (k+i) hj').pos;refine⟨⟨by omega,by show 1<at0 x.zA (k+i);omega⟩,?_⟩;rw[←yN];exact wP (h.okAt (by omega))
 rw[Ja,←h1]at h5;rw[h5,zAm hi,h1,show x.zA.length-k-(i+1)=x.zA.length-(k+i+1)from by omega,h4 w' _ h3 h7,Ja]
theorem zH1{a b:Vec}(ha:V (suf x k) a)(hb:V (suf x k) b):f_c x (fv k a) (fv k b)=some (fv k (mul (suf x k) a b)):=
 zTN h hk hc (zeros k) a b (zZ k) ha hb
theorem zLi{a:Vec}(ha:V (suf x k) a):f_L (fv k a)=some (fv k a):=by
 have _:=hc;have:=zC7 h hk ha;have h6:=h.os.1;unfold f_L;rw[xK (by simp only[K0];omega),bs,Jj]
theorem zD7{a b:Vec}(ha:V (suf x k) a)(hb:V (suf x k) b):zSG x (fv k a) (fv k b)=some (fv k (mul (suf x k) a b)):=by
 unfold zSG;rw[zLi h hk hc ha,bs,zH1 h hk hc ha hb,bs]
theorem zMF{c:Vec}(hcv:V (suf x k) c){e:Int}(e0:0≤e)(e1:e≤1000):zUy x (fv k c) e=some (fv k (pw (mul (suf x k)) (zeros (suf x k).length) c e.toNat)):=by
 have h6:=h.os.1;have ok:=h.okAt hk;unfold zUy;rw[zC7 h hk hcv,wJ (by omega),bs,zOp h hk];rw[uW (S:=V (suf x k)) (body:=zLS x (fv k c) e) (fun u=>fv k u) (fun u=>mul (suf x k) u c) e e0 (fun u hu=>xC ok hu hcv) (fun u i hu hi=>by
  unfold zLS;simp only
  rw[decide_eq_true hi,zQ,zH1 h hk hc hu hcv,bs,zE (by omega) (by omega),bs,cs]) (fun u hu=>by
  unfold zLS;simp only
  rw[decide_eq_false (by omega),zL]) (wP ok),bs]
 rfl
theorem zLj{v:Vec}(hv:V (suf x k) v):∃w,V (suf x k) w∧mul (suf x k) v w=zeros (suf x k).length∧f_G x (fv k v)=some (fv k w):=by
 have h6:=h.os.1;have ok:=h.okAt hk;have G:=zHz h hk hc;have hvl:=zC7 h hk hv;have hsl:=yN x k;unfold f_G;rw[zLi h hk hc hv,bs,hvl,wJ (by omega),bs,zOp h hk]
 let I:Nat→(List Int×List Int×Int)→Prop:=fun j s=> ∃A w,s=(fv k A,fv k w,(j:Int))∧V (suf x k) A∧V (suf x k) w∧mul (suf x k) v w=A∧ ∃A',A=zeros (j-k)++A'
 have key:=tD (body:=zSF x (fv k v)) (Q:=fun r=> ∃w,V (suf x k) w∧mul (suf x k) v w=zeros (suf x k).length∧r=fv k w) I x.zA.length (fun j s hj hI=>by
  obtain⟨A,w,rfl,hA,hw,hm,A',hA'⟩:=hI;left;unfold zSF;simp only
  rw[hvl,xV hj,zQ];rcases Jk j k with hjk|hjk
  ·have e0:ixO (fv k A) (j:Int)=some 0:=by
    rw[uR,Jl (by rw[zZ];exact hjk)];simp[zeros,hjk]
   rw[xT];unfold zPK;simp only
   rw[e0,bs,show((0:Int) != 0)=false from rfl,zL];simp only
   rw[bs,zE (by omega) (by omega),bs,cs];exact⟨_,rfl,A,w,rfl,hA,hw,hm,A,by rw[show j+1-k=0 from by omega];rfl⟩
  ·obtain⟨i,rfl⟩:∃i,j=k+i:=⟨j-k,by omega⟩
   have hi:i<x.zA.length-k:=by omega
   rw[show k+i-k=i from by omega]at hA';have hAl:=vC h hk hA;obtain⟨a0,A',rfl⟩:∃p q,A'=p::q:=by
    cases A' with
    |nil=>rw[hA',J5,zZ,K0]at hAl;omega
    |cons p q=>exact⟨p,q,rfl⟩
   have hpr:=(h.os.2 (k+i) hj).pos;have inner:=tD (body:=zPK x (fv k A,fv k w,((k+i:Nat):Int))) (s:=(fv k A,fv k w))
    (Q:=fun r=> ∃B u,r=(fv k B,fv k u)∧V (suf x k) B∧V (suf x k) u∧mul (suf x k) v u=B∧ ∃B',B=zeros (i+1)++B')
    (fun q s=> ∃B u b B',s=(fv k B,fv k u)∧V (suf x k) B∧V (suf x k) u∧mul (suf x k) v u=B∧B=zeros i++b::B'∧(b=0∨b=a0+q)) 10 (fun q s hq hs=>by
     obtain⟨B,u,b,B',rfl,hB,hu,hmu,hB',hb⟩:=hs;have hz:ixO (fv k B) ((k+i:Nat):Int)=some b:=by
      rw[fv,zLf (by rw[vC h hk hB];exact hi),hB',at0,J2,J8 (by rw[zZ];omega),zZ,Kr];rfl
     unfold zPK;simp only
     rw[hz,bs]
     by_cases hb0:b=0
     ·subst hb0
      right;rw[show((0:Int) != 0)=false from rfl,zL];exact⟨_,rfl,B,u,rfl,hB,hu,hmu,B',by rw[hB',zBF]⟩
     ·left
      have hbq:b=a0+q:=by rcases hb with hb|hb;exact absurd hb hb0;exact hb
      rw[show(b != 0)=true from by simpa using hb0,zQ,zLh h hk hc (zZ k) hi hB,bs,zLh h hk hc (zZ k) hi hu,bs];have hU:=zME h hk hc hi;obtain⟨q',v',h1,h2,h3,h4⟩:=zGt i k B (by omega) hB;have hqv:q'=zeros i∧v'=b::B':=by
       rw[hB']at h1;have:=List.append_inj h1 (by rw[zZ,h2]);exact⟨this.1.symm,this.2.symm⟩
      obtain⟨rfl,rfl⟩:=hqv;have h7:V (suf x (k+i)) (1::zeros (x.zA.length-(k+i+1))):=by
       rw[yF hj];refine⟨⟨by omega,by show 1<at0 x.zA (k+i);omega⟩,?_⟩;rw[←yN];exact wP (h.okAt (by omega))
      have h8:=h4 (b::B') _ h3 h7;rw[show x.zA.length-(k+i+1)=x.zA.length-k-(i+1)from by omega,←zAm hi,←h1,yF hj,yV]at h8;refine⟨_,rfl,mul (suf x k) B (xJ (x.zA.length-k) i),mul (suf x k) u (xJ (x.zA.length-k) i),?_⟩;have hor:(lvl x (k+i)).o=at0 x.zA (k+i):=rfl;rw[hor]at h8
      by_cases hge:b+1≥at0 x.zA (k+i)
      ·rw[if_pos hge]at h8
       refine⟨_,_,rfl,xC ok hB hU,xC ok hu hU,?_,h8,?_⟩
       ·rw[←G.assoc hv hu hU,hmu]
       ·left
        rw[yF hj]at h3;have:=h3.1.2;rw[hor]at this;omega
      ·rw[if_neg hge]at h8
       refine⟨_,_,rfl,xC ok hB hU,xC ok hu hU,?_,h8,?_⟩
       ·rw[←G.assoc hv hu hU,hmu]
       ·right;omega) (fun s hs=>by
     obtain⟨B,u,b,B',rfl,hB,hu,hmu,hB',hb⟩:=hs;have hz:ixO (fv k B) ((k+i:Nat):Int)=some b:=by
      rw[fv,zLf (by rw[vC h hk hB];exact hi),hB',at0,J2,J8 (by rw[zZ];omega),zZ,Kr];rfl
     have hbr:=(zDW h.os (x.zA.length-k) k B (by omega) hB).2 i hi;have ha:=(zDW h.os (x.zA.length-k) k A (by omega) hA).2 i hi;have e1:at0 B i=b:=by rw[hB',at0,J2,J8 (by rw[zZ];omega),zZ,Kr];rfl
     have e2:at0 A i=a0:=by rw[hA',at0,J2,J8 (by rw[zZ];omega),zZ,Kr];rfl
     have hb0:b=0:=by omega
     subst hb0;unfold zPK;simp only
     rw[hz,bs,show((0:Int) != 0)=false from rfl,zL];exact⟨_,rfl,B,u,rfl,hB,hu,hmu,B',by rw[hB',zBF]⟩) ⟨A,w,a0,A',rfl,hA,hw,hm,hA',.inr (by omega)⟩
   obtain⟨r,r1,B,u,rfl,hB,hu,hmu,B',hB'⟩:=inner;rw[r1,bs,zE (by omega) (by omega),bs,cs];exact⟨_,rfl,B,u,rfl,hB,hu,hmu,B',by rw[hB',show k+i+1-k=i+1 from by omega]⟩) (fun s hI=>by
  obtain⟨A,w,rfl,hA,hw,hm,A',hA'⟩:=hI;unfold zSF;simp only
  rw[hvl,wC,zL];refine⟨_,rfl,w,hw,?_,rfl⟩;have hAl:=vC h hk hA;rw[hA',J5,zZ]at hAl;rw[hm,hA',Kb (l:=A') (by omega),J9,hsl]) (s:=(fv k v,fv k (zeros (suf x k).length),0))
  ⟨v,_,rfl,hv,wP ok,G.oner hv,v,by rw[Jcu];rfl⟩
 obtain⟨r,r1,w,hw,hm,rfl⟩:=key;rw[r1,bs];exact⟨w,hw,hm,rfl⟩
theorem zC8{a b:Vec}(ha:V (suf x k) a)(hb:V (suf x k) b):∃c,V (suf x k) c∧mul (suf x k) b c=mul (suf x k) a b∧zSH x (fv k a) (fv k b)=some (fv k c):=by
 have ok:=h.okAt hk;have G:=zHz h hk hc;obtain⟨w,hw,hm,h1⟩:=zLj h hk hc hb;have hab:=xC ok ha hb;refine⟨mul (suf x k) w (mul (suf x k) a b),xC ok hw hab,?_,?_⟩
 ·rw[←G.assoc hb hw hab,hm,G.onel hab]
 ·unfold zSH
  rw[h1,bs,zD7 h hk hc ha hb,bs,zD7 h hk hc hw hab,bs]
end
theorem zDX{a b:List Int}(h:a.length≤1000000):f_Q a b=some (a==b):=
 zIN (t:=fun u v=>some (u==v)) (body:=zWZ a b) rfl (fun _=>rfl) (by omega) fun _ _ _ _=>rfl
theorem zPp{a b:List Int}(h:a.length≤1000000):f_V a b=some (a==b):=zDX h
end Go.Pl

namespace Go.Pl
open Go Go.Ab Go.Wk Go.Pc
theorem zLk{ρ:Type}{body:Int→Option (Int⊕(Unit⊕ρ))}(n i0:Nat)(hn:i0≤n)(P:Nat→Prop)(B:ρ→Prop)
  (h:∀i,i0≤i→i<n→(∀j,i0≤j→j<i→P j)→(body (i:Int)=some (.inl ((i+1:Nat):Int))∧P i)∨(∃r,body (i:Int)=some (.inr (.inr r))∧B r∧ ¬P i))
  (he:body (n:Int)=some (.inr (.inl ()))):
  (zJ body (i0:Int)=some (.inl ())∧ ∀j,i0≤j→j<n→P j)∨ ∃r i,i0≤i∧i<n∧zJ body (i0:Int)=some (.inr r)∧B r∧ ¬P i:=by
 have key:∀k i,i0≤i→i+k=n→(∀j,i0≤j→j<i→P j)→(zJ body (i:Int)=some (.inl ())∧ ∀j,i0≤j→j<n→P j)∨ ∃r q,i0≤q∧q<n∧zJ body (i:Int)=some (.inr r)∧B r∧ ¬P q:=by
  intro k
  induction k with
  |zero=>
   intro i hi hk hp;obtain rfl:i=n:=by omega
   exact .inl ⟨by rw[xT,he],hp⟩
  |succ k ih=>
   intro i hi hk hp;rcases h i hi (by omega) hp with⟨h1,h2⟩|⟨r,h1,h2,h3⟩
   ·have:=ih (i+1) (by omega) (by omega) fun j a b=>by
     rcases Jk j i with c|c
     ·exact hp j a c
     ·rw[show j=i from by omega];exact h2
    rw[xT,h1];exact this
   ·exact .inr ⟨r,i,hi,by omega,by rw[xT,h1],h2,h3⟩
 exact key (n-i0) i0 (Jp _) (by omega) fun j a b=>by omega
theorem zH2{σ ρ:Type}{body:σ→Option (σ⊕ρ)}{Q:ρ→Prop}(I:σ→Prop)(m:σ→Nat)
  (h:∀s,I s→(∃s',body s=some (.inl s')∧I s'∧m s'<m s)∨ ∃r,body s=some (.inr r)∧Q r):∀(k:Nat)(s:σ),m s≤k→I s→ ∃r,zJ body s=some r∧Q r
 |k,s,hk,hs=>by
  rcases h s hs with⟨s',h1,h2,h3⟩|⟨r,h1,h2⟩
  ·cases k with
   |zero=>omega
   |succ k=>
    obtain⟨r,h4,h5⟩:=zH2 I m h k s' (by omega) h2;exact⟨r,by rw[xT,h1];exact h4,h5⟩
  ·exact⟨r,by rw[xT,h1],h2⟩
theorem zWv{k:Nat}{a b:Vec}:(fv k a==fv k b)=true↔a=b:=by
 rw[beq_iff_eq];exact⟨fun h=>List.append_cancel_left h,fun h=>by rw[h]⟩
theorem zC9{x:SPr}{v:List Int}{i k:Nat}(h:Exp x.zA v i)(hk:k≤i+1)(hn:k≤x.zA.length):v=fv k (v.drop k)∧V (suf x k) (v.drop k):=by
 have h1:=h.1.1;constructor
 ·apply L7
  intro j;rw[fv,Ky];simp only[zeros,Ji,Kz,Kq];split
  ·rename_i hj
   have h2:=h.2 j (by omega);rw[J3 (by omega)];rw[at0,J2,J3 (by omega)]at h2;simpa using h2
  ·rw[show k+(j-k)=j from by omega]
 ·refine zWu (x.zA.length-k) k _ (by omega) (by rw[Jx];omega) fun j hj=>?_
  have:=h.1.2 (k+j) (by omega);have e:at0 (v.drop k) j=at0 v (k+j):=by simp only[at0,J2,Kq]
  rw[e];exact this
structure LC (x:SPr) (k:Nat):Prop where
 c1:∀j,k+1≤j→j<x.zA.length→pw (mul (suf x (k+1))) (zeros (suf x (k+1)).length) ((lvl x k).cs.getD (j-(k+1)) []) (at0 x.zA j).toNat=sig (suf x (k+1)) (lvl x k) ((x.zS.getD j []).drop (k+1))
 c2:∀i,k+1≤i→i<x.zA.length→ ∀j,i+1≤j→j<x.zA.length→
  mul (suf x (k+1)) ((lvl x k).cs.getD (j-(k+1)) []) ((lvl x k).cs.getD (i-(k+1)) [])=mul (suf x (k+1)) ((lvl x k).cs.getD (i-(k+1)) []) (sig (suf x (k+1)) (lvl x k) (((x.zC.getD i []).getD (j-(i+1)) []).drop (k+1)))
 c3:sig (suf x (k+1)) (lvl x k) (lvl x k).w=(lvl x k).w
 c4:∀j,k+1≤j→j<x.zA.length→mul (suf x (k+1)) (lvl x k).w (iter (lvl x k).o.toNat (sig (suf x (k+1)) (lvl x k)) (xJ (x.zA.length-(k+1)) (j-(k+1))))=mul (suf x (k+1)) (xJ (x.zA.length-(k+1)) (j-(k+1))) (lvl x k).w
section
variable {x:SPr} (h:Pres x) {k:Nat} (hk:k<x.zA.length) (hc:wR (suf x (k+1)))
 include h hk
theorem kN{j:Nat}(h1:k+1≤j)(h2:j<x.zA.length):ixO x.zC (k:Int)=some (x.zC.getD k [])∧ixO (x.zC.getD k []) ((j:Int)-(k:Int)-1)=some (fv (k+1) ((lvl x k).cs.getD (j-(k+1)) []))∧V (suf x (k+1)) ((lvl x k).cs.getD (j-(k+1)) []):=by
 obtain⟨c,c1,c2,c3,c4⟩:=zED h hk (i:=j-(k+1)) (by omega);rw[c4];refine⟨c1,?_,c3⟩;rw[show(j:Int)-(k:Int)-1=((j-(k+1):Nat):Int)from by omega];exact c2
theorem zRt{j:Nat}(h1:k+1≤j)(h2:j<x.zA.length):ixO x.zS (j:Int)=some (fv (k+1) ((x.zS.getD j []).drop (k+1)))∧V (suf x (k+1)) ((x.zS.getD j []).drop (k+1)):=by
 have t1:=(h.tl j h2).1;have hl:=h.pl;obtain⟨e1,e2⟩:=zC9 (k:=k+1) t1 (by omega) (by omega);exact⟨by rw[yY [] (by omega),←e1],e2⟩
theorem zRu{i j:Nat}(h1:k+1≤i)(h2:i+1≤j)(h3:j<x.zA.length):ixO x.zC (i:Int)=some (x.zC.getD i [])∧ixO (x.zC.getD i []) ((j:Int)-(i:Int)-1)=some (fv (k+1) (((x.zC.getD i []).getD (j-(i+1)) []).drop (k+1)))∧V (suf x (k+1)) (((x.zC.getD i []).getD (j-(i+1)) []).drop (k+1)):=by
 obtain⟨_,t2,t3⟩:=h.tl i (by omega);have hl:=h.cl;obtain⟨e1,e2⟩:=zC9 (k:=k+1) (t3 (j-(i+1)) (by omega)) (by omega) (by omega);refine⟨yY [] (by omega),?_,e2⟩;rw[show(j:Int)-(i:Int)-1=((j-(i+1):Nat):Int)from by omega,yY [] (by omega),←e1]
theorem zWw:ixO x.zS (k:Int)=some (fv (k+1) (lvl x k).w)∧V (suf x (k+1)) (lvl x k).w:=by
 have t1:=(h.tl k hk).1;have hl:=h.pl;obtain⟨e1,e2⟩:=zC9 (k:=k+1) t1 (by omega) (by omega);exact⟨by rw[yY [] (by omega)];exact congrArg some e1,e2⟩
theorem zVo{v:Vec}(hv:V (suf x (k+1)) v):V (suf x (k+1)) (sig (suf x (k+1)) (lvl x k) v):=by
 have ok0:=h.okAt (k:=k) (by omega);rw[yF hk]at ok0;exact zC0 ok0 hv
theorem zIS{j:Nat}(h1:k+1≤j)(h2:j<x.zA.length):zSI (x.zA.length:Int) (j:Int)=some (fv (k+1) (xJ (x.zA.length-(k+1)) (j-(k+1)))):=by
 have h6:=h.os.1;unfold zSI;rw[wJ (by omega),bs,uR,Kz,if_pos h2,bs,Jg]
 congr 1
 rw[fv,zAm (by omega),←Ja];have e1:zeros (k+1)++zeros (j-(k+1))=zeros j:=by simp only[zeros,Ju];congr 1;omega
 have e2:J1 x.zA.length (0:Int)=zeros j++0::zeros (x.zA.length-(j+1)):=by
  simp only[zeros];rw[←Jq,Ju];congr 1;omega
 rw[e1,e2,zD6,show x.zA.length-(k+1)-(j-(k+1)+1)=x.zA.length-(j+1)from by omega]
theorem zPq{j:Nat}(h1:k+1≤j)(h2:j<x.zA.length):zWS (x.zA.length:Int) (j:Int)=some (fv (k+1) (xJ (x.zA.length-(k+1)) (j-(k+1)))):=zIS h hk h1 h2
 include hc
theorem zAn{v:Vec}(hv:V (suf x (k+1)) v):f_D x k (fv (k+1) v)=some (fv (k+1) (sig (suf x (k+1)) (lvl x k) v)):=by
 have h6:=h.os.1;have ok:=h.okAt (k:=k+1) (by omega);have ok0:=h.okAt (k:=k) (by omega);rw[yF hk]at ok0;obtain⟨hvl,hvr⟩:=zDW h.os (x.zA.length-(k+1)) (k+1) v (by omega) hv;have hcl:(lvl x k).cs.length=x.zA.length-(k+1):=by rw[ok0.2.2.1,yN]
 have t2:=(h.tl k hk).2.1;have hcl2:=h.cl;have hA:∀i,V (suf x (k+1)) (img (mul (suf x (k+1))) ((lvl x k).cs.take i) (v.take i) (zeros (suf x (k+1)).length)):=fun i=>
  jA (xC ok) _ _ (fun c hc=>ok0.2.2.2.1 c (Gz hc)) (wP ok)
 unfold f_D;rw[zC7 h (by omega) hv,wJ (by omega),bs,yY [] (by omega),bs,zOp h (k:=k+1) (by omega)];have:=yB (body:=zSE x k (fv (k+1) v) (x.zC.getD k [])) (r:=fv (k+1) (sig (suf x (k+1)) (lvl x k) v))
  (fun i=>(fv (k+1) (img (mul (suf x (k+1))) ((lvl x k).cs.take i) (v.take i) (zeros (suf x (k+1)).length)),(i:Int))) (x.zC.getD k []).length (fun i hi=>by
  have hr:=hvr i (by omega);obtain⟨c,c1,c2,c3,c4⟩:=zED h hk (i:=i) (by omega);unfold zSE;simp only
  rw[xV hi,zQ,c2,bs,zE (by omega) (by omega),bs,zE (by omega) (by omega),bs,show(k:Int)+1+(i:Int)=((k+1+i:Nat):Int)from by omega,fv,zLf (by omega),bs];rw[uW (S:=V (suf x (k+1))) (body:=zSD x (zeros (k+1)++c) (at0 v i)) (fun u=>fv (k+1) u) (fun u=>mul (suf x (k+1)) u c) (at0 v i) hr.1 (fun u hu=>xC ok hu c3) (fun u q hu hq=>by
   unfold zSD;simp only
   rw[decide_eq_true hq,zQ,zH1 h (by omega) hc hu c3,bs,zE (by omega) (by omega),bs,cs]) (fun u hu=>by
   unfold zSD;simp only
   rw[decide_eq_false (by omega),zL]) (hA i),bs,zE (by omega) (by omega),bs,cs]
  rw[zBr _ _ _ _ (by omega) (by omega),c4]) (by
  unfold zSE;simp only
  rw[wC,zL,Jr (by omega),Jr (by omega)];rfl)
 simp only[K8,img]at this;rw[show((0:Nat):Int)=0 from rfl]at this;rw[this,bs]
theorem zCA{a b:Vec}(ha:V (suf x (k+1)) a):IsB (f_Q (fv (k+1) a) (fv (k+1) b)) (a=b):=by
 have _:=hc;have h6:=h.os.1;rw[zDX (by rw[zC7 h (by omega) ha];omega)];exact IsB.of_bool zWv
theorem zLl{c:Vec}(hcv:V (suf x (k+1)) c){e:Int}(e0:0≤e)(e1:e≤1000):zUr x ((k+1:Nat):Int) (fv (k+1) c) e=some (fv (k+1) (pw (mul (suf x (k+1))) (zeros (suf x (k+1)).length) c e.toNat)):=by
 have h6:=h.os.1;have ok:=h.okAt (k:=k+1) (by omega);have G:=zHz h (k:=k+1) (by omega) hc;have hA:=zOo h (k:=k+1) (by omega);have pwV:∀a,V (suf x (k+1)) (pw (mul (suf x (k+1))) (zeros (suf x (k+1)).length) c a):=fun a=>tL G.toMon hcv a
 unfold zUr;rw[wJ (by omega),bs,zOp h (k:=k+1) (by omega)];obtain⟨r,r1,r2⟩:=zH2 (body:=zOO x ((k+1:Nat):Int)) (Q:=fun r=>r=fv (k+1) (pw (mul (suf x (k+1))) (zeros (suf x (k+1)).length) c e.toNat))
  (fun s=> ∃(m a q:Nat),s=((m:Int),fv (k+1) (pw (mul (suf x (k+1))) (zeros (suf x (k+1)).length) c a),fv (k+1) (pw (mul (suf x (k+1))) (zeros (suf x (k+1)).length) c q))∧a+q*m=e.toNat∧m≤1000) (fun s=>s.1.toNat) (fun s ⟨m,a,q,hs,he,hm⟩=>by
   subst hs;unfold zOO;simp only
   by_cases hm0:m=0
   ·right
    subst hm0;rw[show decide (((0:Nat):Int)> 0)=false from rfl,zL];refine⟨_,rfl,?_⟩;rw[←he,Nat.mul_zero];rfl
   ·left
    have hr:uL (m:Int) 2=some ((m%2:Nat):Int):=by
     unfold uL;rw[if_neg (by decide),Li (by omega)];rfl
    have hq:tB (m:Int) 2=some ((m/2:Nat):Int):=by
     unfold tB;rw[if_neg (by decide),Int.tdiv_eq_ediv_of_nonneg (by omega)];rw[zE (by omega) (by omega)];rfl
    have hdm:=Ge m 2;have hqq:mul (suf x (k+1)) (pw (mul (suf x (k+1))) (zeros (suf x (k+1)).length) c q) (pw (mul (suf x (k+1))) (zeros (suf x (k+1)).length) c q)=pw (mul (suf x (k+1))) (zeros (suf x (k+1)).length) c (q+q):=(zHo G.toMon hcv q q).symm;rw[decide_eq_true (by omega),zQ,hr,bs];rcases Nat.mod_two_eq_zero_or_one m with h2|h2
    ·rw[h2,show((((0:Nat):Int))==1)=false from rfl,zL,hA _ _ (pwV q) (pwV q),bs,hq,bs,hqq]
     refine⟨_,rfl,⟨m/2,a,q+q,rfl,?_,by omega⟩,by simp only;omega⟩;rw[←he];have:m=m/2+m/2:=by omega
     have e3:(q+q)*(m/2)=q*m:=by
      rw[Uu,←Jb3,←this]
     omega
    ·rw[h2,show((((1:Nat):Int))==1)=true from rfl,zQ,hA _ _ (pwV a) (pwV q),bs,hA _ _ (pwV q) (pwV q),bs,hq,bs,hqq,←zHo G.toMon hcv a q]
     refine⟨_,rfl,⟨m/2,a+q,q+q,rfl,?_,by omega⟩,by simp only;omega⟩;rw[←he];have:m=m/2+m/2+1:=by omega
     have e3:(q+q)*(m/2)+q=q*m:=by
      have e4:q*m=q*(m/2+m/2+1):=by rw[←this]
      rw[e4,Jb3,Jb3,Qh,Uu]
     omega) 1000000 (e,fv (k+1) (zeros (suf x (k+1)).length),fv (k+1) c) (by simp only;omega) ⟨e.toNat,0,1,by rw[zRi G.toMon hcv,show((e.toNat:Nat):Int)=e from by omega];rfl,by omega,by omega⟩
 rw[r1,bs,r2]
end
end Go.Pl

namespace Go.Pl
open Go Go.Ab Go.Wk Go.Pc
def zY7(o:Option xG)(P:Prop):Prop:=(o=some (xG.mk 0 0 0 0)∧P)∨ ∃r,o=some r∧r.Kind≠0∧ ¬P
theorem kb{a b c d:Int}(h:a≠0):(xG.mk a b c d).Kind≠0:=h
abbrev KB(r:xG):Prop:=r.Kind≠0
theorem zBs{o:Option Bool}{P:Prop}{bad:xG}{i:Nat}{g:Option (Int⊕(Unit⊕xG))}(h:IsB o P)(hi:i<9223372036854775807)(hbad:bad.Kind≠0)
  (hg:g=o.bind fun r=>cond (!r) (some (.inr (.inr bad))) ((rng ((i:Int)+1)).bind fun v=>some (.inl v))):(g=some (.inl ((i+1:Nat):Int))∧P)∨(∃r,g=some (.inr (.inr r))∧KB r∧ ¬P):=by
 rcases tP h hi hg with h|⟨h1,h2⟩
 ·exact .inl h
 ·exact .inr ⟨bad,h1,hbad,h2⟩
section
variable {x:SPr} (h:Pres x) {k:Nat} (hk:k<x.zA.length) (hc:wR (suf x (k+1)))
 include h hk hc
theorem zMG:zY7 (f_n x k) (LC x k):=by
 have h6:=h.os.1;have ok:=h.okAt (k:=k+1) (by omega);have G:=zHz h (k:=k+1) (by omega) hc;obtain⟨w1,w2⟩:=zWw h hk;have hsV:∀v,V (suf x (k+1)) v→V (suf x (k+1)) (sig (suf x (k+1)) (lvl x k) v):=fun v hv=>zVo h hk hv
 unfold f_n;rw[zE (by omega) (by omega),bs,cs];rcases zLk (body:=zSJ x k) x.zA.length (k+1) (by omega) (fun j=>pw (mul (suf x (k+1))) (zeros (suf x (k+1)).length) ((lvl x k).cs.getD (j-(k+1)) []) (at0 x.zA j).toNat=sig (suf x (k+1)) (lvl x k) ((x.zS.getD j []).drop (k+1))) KB (fun j h1 h2 _=>by
   obtain⟨c1,c2,c3⟩:=kN h hk h1 h2;obtain⟨p1,p2⟩:=zRt h hk h1 h2;have hpr:=(h.os.2 j h2).pos;refine zBs (zCA h hk hc (tL G.toMon c3 (at0 x.zA j).toNat)) (by omega) (bad:=xG.mk 1 k j 0) (kb (by decide)) ?_;unfold zSJ;rw[xV h2,zQ,c1,bs,zE (by omega) (by omega),bs,zE (by omega) (by omega),bs,c2,bs,xD h2,bs,zMF h (by omega) hc c3 (by omega) (by omega),bs,p1,bs,zAn h hk hc p2,bs]) (by
   unfold zSJ;rw[wC,zL])with⟨g1,g2⟩|⟨r,j,j1,j2,g1,g2,g3⟩
 rotate_left
 ·rw[g1,bs]
  exact .inr ⟨r,rfl,g2,fun q=>g3 (q.c1 j j1 j2)⟩
 rw[g1,bs];simp only
 rw[bs];rcases zLk (body:=zSL x k) x.zA.length (k+1) (by omega) (fun i=> ∀j,i+1≤j→j<x.zA.length→
   mul (suf x (k+1)) ((lvl x k).cs.getD (j-(k+1)) []) ((lvl x k).cs.getD (i-(k+1)) [])=mul (suf x (k+1)) ((lvl x k).cs.getD (i-(k+1)) []) (sig (suf x (k+1)) (lvl x k) (((x.zC.getD i []).getD (j-(i+1)) []).drop (k+1)))) KB (fun i h1 h2 _=>by
   obtain⟨c1,c2,c3⟩:=kN h hk h1 h2;unfold zSL;rw[xV h2,zQ,zE (by omega) (by omega),bs,cs];rcases zLk (body:=zSK x k i) x.zA.length (i+1) (by omega) (fun j=>mul (suf x (k+1)) ((lvl x k).cs.getD (j-(k+1)) []) ((lvl x k).cs.getD (i-(k+1)) [])=mul (suf x (k+1)) ((lvl x k).cs.getD (i-(k+1)) []) (sig (suf x (k+1)) (lvl x k) (((x.zC.getD i []).getD (j-(i+1)) []).drop (k+1)))) KB (fun j h3 h4 _=>by
     obtain⟨d1,d2,d3⟩:=kN h hk (j:=j) (by omega) h4;obtain⟨e1,e2,e3⟩:=zRu h hk h1 h3 h4;obtain⟨q,q1,q2,q3⟩:=zC8 h (by omega) hc d3 c3;refine zBs ((zCA h hk hc (b:=sig (suf x (k+1)) (lvl x k) (((x.zC.getD i []).getD (j-(i+1)) []).drop (k+1))) q1).iff (Q:=mul (suf x (k+1)) ((lvl x k).cs.getD (j-(k+1)) []) ((lvl x k).cs.getD (i-(k+1)) [])=mul (suf x (k+1)) ((lvl x k).cs.getD (i-(k+1)) []) (sig (suf x (k+1)) (lvl x k) (((x.zC.getD i []).getD (j-(i+1)) []).drop (k+1)))) ?_) (by omega) (bad:=xG.mk 2 k i j) (kb (by decide)) ?_
     ·exact⟨fun e=>by rw[←q2,e],fun e=>G.cancel_l c3 q1 (hsV _ e3) (by rw[q2,e])⟩
     ·unfold zSK
      rw[xV h4,zQ,d1,bs,zE (by omega) (by omega),bs,zE (by omega) (by omega),bs,d2,bs,bs,zE (by omega) (by omega),bs,zE (by omega) (by omega),bs,c2,bs,q3,bs,e1,bs,zE (by omega) (by omega),bs,zE (by omega) (by omega),bs,e2,bs,zAn h hk hc e3,bs]) (by
     unfold zSK;rw[wC,zL])with⟨g1,g2⟩|⟨r,j,j1,j2,g1,g2,g3⟩
   ·left
    rw[g1,bs];exact⟨rfl,g2⟩
   ·right
    rw[g1,bs];exact⟨r,rfl,g2,fun q=>g3 (q j j1 j2)⟩) (by
   unfold zSL;rw[wC,zL])with⟨k1,k2⟩|⟨r,j,j1,j2,k1,k2,k3⟩
 rotate_left
 ·rw[k1,bs]
  exact .inr ⟨r,rfl,k2,fun q=>k3 (q.c2 j j1 j2)⟩
 rw[k1,bs];simp only
 rw[w1,bs,zAn h hk hc w2,bs];rcases zCA h hk hc (b:=(lvl x k).w) (hsV _ w2)with⟨m1,m2⟩|⟨m1,m2⟩
 rotate_left
 ·rw[m1,bs,Kn,zQ]
  exact .inr ⟨_,rfl,kb (by decide),fun q=>m2 q.c3⟩
 rw[m1,bs,K9,zL,bs];rcases zLk (body:=zSN x k (fv (k+1) (lvl x k).w)) x.zA.length (k+1) (by omega) (fun j=>mul (suf x (k+1)) (lvl x k).w (iter (lvl x k).o.toNat (sig (suf x (k+1)) (lvl x k)) (xJ (x.zA.length-(k+1)) (j-(k+1))))=mul (suf x (k+1)) (xJ (x.zA.length-(k+1)) (j-(k+1))) (lvl x k).w) KB (fun j h1 h2 _=>by
   have hU:=zME h (k:=k+1) (by omega) hc (i:=j-(k+1)) (by omega);have hpr:=(h.os.2 k hk).pos;obtain⟨q,q1,q2,q3⟩:=zC8 h (k:=k+1) (by omega) hc hU w2;have hit:V (suf x (k+1)) (iter (lvl x k).o.toNat (sig (suf x (k+1)) (lvl x k)) (xJ (x.zA.length-(k+1)) (j-(k+1)))):=vL hsV _ hU;refine zBs ((zCA h hk hc (b:=q) hit).iff ⟨fun e=>by rw[e,q2],fun e=>G.cancel_l w2 hit q1 (by rw[e,q2])⟩) (by omega) (bad:=xG.mk 4 k j 0) (kb (by decide)) ?_;unfold zSN;rw[xV h2,zQ,zIS h hk h1 h2,bs,xD hk,bs];rw[uW (S:=V (suf x (k+1))) (body:=zSM x k (at0 x.zA k)) (fun u=>fv (k+1) u) (sig (suf x (k+1)) (lvl x k)) (at0 x.zA k) (by omega) hsV (fun u i hu hi=>by
    unfold zSM;simp only
    rw[decide_eq_true hi,zQ,zAn h hk hc hu,bs,zE (by omega) (by omega),bs,cs]) (fun u hu=>by
    unfold zSM;simp only
    rw[decide_eq_false (by omega),zL]) hU,bs,bs,q3,bs]
   rfl) (by
   unfold zSN;rw[wC,zL])with⟨n1,n2⟩|⟨r,j,j1,j2,n1,n2,n3⟩
 ·rw[n1,bs]
  exact .inl ⟨rfl,⟨g2,k2,m2,n2⟩⟩
 ·rw[n1,bs]
  exact .inr ⟨r,rfl,n2,fun q=>n3 (q.c4 j j1 j2)⟩
theorem zMH:zY7 (f_o x k) (LC x k):=by
 have h6:=h.os.1;have ok:=h.okAt (k:=k+1) (by omega);have G:=zHz h (k:=k+1) (by omega) hc;obtain⟨w1,w2⟩:=zWw h hk;have hA:=zOo h (k:=k+1) (by omega);have hI:=zMC h hk;have hsV:∀v,V (suf x (k+1)) v→V (suf x (k+1)) (sig (suf x (k+1)) (lvl x k) v):=fun v hv=>zVo h hk hv
 have eqB:∀{a b:Vec},V (suf x (k+1)) a→IsB (f_V (fv (k+1) a) (fv (k+1) b)) (a=b):=fun ha=>zCA h hk hc ha
 unfold f_o;rw[zE (by omega) (by omega),bs,cs];rcases zLk (body:=zSs x k) x.zA.length (k+1) (by omega) (fun j=>pw (mul (suf x (k+1))) (zeros (suf x (k+1)).length) ((lvl x k).cs.getD (j-(k+1)) []) (at0 x.zA j).toNat=sig (suf x (k+1)) (lvl x k) ((x.zS.getD j []).drop (k+1))) KB (fun j h1 h2 _=>by
   obtain⟨c1,c2,c3⟩:=kN h hk h1 h2;obtain⟨p1,p2⟩:=zRt h hk h1 h2;have hpr:=(h.os.2 j h2).pos;refine zBs (eqB (tL G.toMon c3 (at0 x.zA j).toNat)) (by omega) (bad:=xG.mk 1 k j 0) (kb (by decide)) ?_;unfold zSs;rw[xV h2,zQ,zE (by omega) (by omega),bs,cs,c1,bs,zE (by omega) (by omega),bs,zE (by omega) (by omega),bs,c2,bs,xD h2,bs,zLl h hk hc c3 (by omega) (by omega),bs,p1,bs,hI _ p2,bs]) (by
   unfold zSs;rw[wC,zL])with⟨g1,g2⟩|⟨r,j,j1,j2,g1,g2,g3⟩
 rotate_left
 ·rw[g1,bs]
  exact .inr ⟨r,rfl,g2,fun q=>g3 (q.c1 j j1 j2)⟩
 rw[g1,bs];simp only
 rw[bs];rcases zLk (body:=zSu x k) x.zA.length (k+1) (by omega) (fun i=> ∀j,i+1≤j→j<x.zA.length→
   mul (suf x (k+1)) ((lvl x k).cs.getD (j-(k+1)) []) ((lvl x k).cs.getD (i-(k+1)) [])=mul (suf x (k+1)) ((lvl x k).cs.getD (i-(k+1)) []) (sig (suf x (k+1)) (lvl x k) (((x.zC.getD i []).getD (j-(i+1)) []).drop (k+1)))) KB (fun i h1 h2 _=>by
   obtain⟨c1,c2,c3⟩:=kN h hk h1 h2;unfold zSu;rw[xV h2,zQ,zE (by omega) (by omega),bs,cs];rcases zLk (body:=zSt x k i) x.zA.length (i+1) (by omega) (fun j=>mul (suf x (k+1)) ((lvl x k).cs.getD (j-(k+1)) []) ((lvl x k).cs.getD (i-(k+1)) [])=mul (suf x (k+1)) ((lvl x k).cs.getD (i-(k+1)) []) (sig (suf x (k+1)) (lvl x k) (((x.zC.getD i []).getD (j-(i+1)) []).drop (k+1)))) KB (fun j h3 h4 _=>by
     obtain⟨d1,d2,d3⟩:=kN h hk (j:=j) (by omega) h4;obtain⟨e1,e2,e3⟩:=zRu h hk h1 h3 h4;refine zBs (eqB (xC ok d3 c3)) (by omega) (bad:=xG.mk 2 k i j) (kb (by decide)) ?_;unfold zSt;rw[xV h4,zQ,d1,bs,zE (by omega) (by omega),bs,zE (by omega) (by omega),bs,c2,bs,bs,zE (by omega) (by omega),bs,zE (by omega) (by omega),bs,d2,bs,e1,bs,zE (by omega) (by omega),bs,zE (by omega) (by omega),bs,e2,bs,hI _ e3,bs,zE (by omega) (by omega),bs,cs,hA _ _ d3 c3,bs,bs,hA _ _ c3 (hsV _ e3),bs]) (by
     unfold zSt;rw[wC,zL])with⟨g1,g2⟩|⟨r,j,j1,j2,g1,g2,g3⟩
   ·left
    rw[g1,bs];exact⟨rfl,g2⟩
   ·right
    rw[g1,bs];exact⟨r,rfl,g2,fun q=>g3 (q j j1 j2)⟩) (by
   unfold zSu;rw[wC,zL])with⟨k1,k2⟩|⟨r,j,j1,j2,k1,k2,k3⟩
 rotate_left
 ·rw[k1,bs]
  exact .inr ⟨r,rfl,k2,fun q=>k3 (q.c2 j j1 j2)⟩
 rw[k1,bs];simp only
 rw[w1,bs,hI _ w2,bs];rcases eqB (b:=(lvl x k).w) (hsV _ w2)with⟨m1,m2⟩|⟨m1,m2⟩
 rotate_left
 ·rw[m1,bs,Kn,zQ]
  exact .inr ⟨_,rfl,kb (by decide),fun q=>m2 q.c3⟩
 rw[m1,bs,K9,zL,bs];rcases zLk (body:=zSw x k (fv (k+1) (lvl x k).w)) x.zA.length (k+1) (by omega) (fun j=>mul (suf x (k+1)) (lvl x k).w (iter (lvl x k).o.toNat (sig (suf x (k+1)) (lvl x k)) (xJ (x.zA.length-(k+1)) (j-(k+1))))=mul (suf x (k+1)) (xJ (x.zA.length-(k+1)) (j-(k+1))) (lvl x k).w) KB (fun j h1 h2 _=>by
   have hU:=zME h (k:=k+1) (by omega) hc (i:=j-(k+1)) (by omega);have hpr:=(h.os.2 k hk).pos;have hit:V (suf x (k+1)) (iter (lvl x k).o.toNat (sig (suf x (k+1)) (lvl x k)) (xJ (x.zA.length-(k+1)) (j-(k+1)))):=vL hsV _ hU;refine zBs (eqB (xC ok w2 hit)) (by omega) (bad:=xG.mk 4 k j 0) (kb (by decide)) ?_;unfold zSw;rw[xV h2,zQ,zPq h hk h1 h2,bs];rw[uW (S:=V (suf x (k+1))) (body:=zSv x k) (fun u=>fv (k+1) u) (sig (suf x (k+1)) (lvl x k)) (at0 x.zA k) (by omega) hsV (fun u i hu hi=>by
    unfold zSv;simp only
    rw[xD hk,bs,decide_eq_true hi,zQ,hI _ hu,bs,zE (by omega) (by omega),bs,cs]) (fun u hu=>by
    unfold zSv;simp only
    rw[xD hk,bs,decide_eq_false (by omega),zL]) hU,bs,zE (by omega) (by omega),bs,cs]
   have ho:(lvl x k).o=at0 x.zA k:=rfl;rw[←ho,hA _ _ w2 hit,bs,bs,hA _ _ hU w2,bs]) (by
   unfold zSw;rw[wC,zL])with⟨n1,n2⟩|⟨r,j,j1,j2,n1,n2,n3⟩
 ·rw[n1,bs]
  exact .inl ⟨rfl,⟨g2,k2,m2,n2⟩⟩
 ·rw[n1,bs]
  exact .inr ⟨r,rfl,n2,fun q=>n3 (q.c4 j j1 j2)⟩
end
end Go.Pl

namespace Go.Pl
open Go Go.Ab Go.Wk Go.Pc
theorem zF3{m:Vec→Vec→Vec}:∀(i:Nat)(cs:List Vec)(w acc:Vec),i≤cs.length→img m cs (zeros i++w) acc=img m (cs.drop i) w acc
 |0,cs,w,acc,_=>rfl
 |i+1,[],w,acc,h=>by simp at h
 |i+1,c::cs,w,acc,h=>by
  show img m (c::cs) (0::(zeros i++w)) acc=_;simp only[img,Hq,iter,List.drop_succ_cons];exact zF3 i cs w acc (by simpa using h)
theorem zH3{x:SPr}{v:List Int}{j k:Nat}(h:Exp x.zA v j)(hj:j<x.zA.length)(hk:k≤j+1):v.drop k=zeros (j+1-k)++v.drop (j+1):=by
 have:=zAs h hj;have h2:v.drop k=(zeros (j+1)++v.drop (j+1)).drop k:=by rw[←this]
 rw[h2,Jbw,zZ,show k-(j+1)=0 from by omega,G7]
 congr 1
 simp only[zeros,H3]
section
variable {x:SPr} (h:zFX x) {k:Nat} (hk:k<x.zA.length)
 include h hk
theorem zAt:(lvl x k).cs.length=x.zA.length-(k+1):=by
 have ok0:=h.okAt (k:=k) (by omega);rw[yF hk]at ok0;rw[ok0.2.2.1,yN]
theorem zTP{j:Nat}(h1:k+1≤j)(h2:j<x.zA.length):sig (suf x (k+1)) (lvl x k) ((x.zS.getD j []).drop (k+1))=img (mul (suf x (k+1))) ((lvl x k).cs.drop (j-k)) (lvl x j).w (zeros (suf x (k+1)).length):=by
 have t1:=(h.tl j h2).1;have hcl:=zAt h hk;rw[zH3 t1 h2 (by omega),sig,zF3 _ _ _ _ (by omega),show j+1-(k+1)=j-k from by omega];rfl
theorem zOq:∀(d i:Nat),k+1+i+d=x.zA.length→(Rel (mul (suf x (k+1))) (zeros (suf x (k+1)).length) (suf x (k+1+i)) ((lvl x k).cs.drop i)↔
  (∀j,k+1+i≤j→j<x.zA.length→pw (mul (suf x (k+1))) (zeros (suf x (k+1)).length) ((lvl x k).cs.getD (j-(k+1)) []) (at0 x.zA j).toNat=sig (suf x (k+1)) (lvl x k) ((x.zS.getD j []).drop (k+1)))∧
  (∀a,k+1+i≤a→a<x.zA.length→ ∀j,a+1≤j→j<x.zA.length→
   mul (suf x (k+1)) ((lvl x k).cs.getD (j-(k+1)) []) ((lvl x k).cs.getD (a-(k+1)) [])=mul (suf x (k+1)) ((lvl x k).cs.getD (a-(k+1)) []) (sig (suf x (k+1)) (lvl x k) (((x.zC.getD a []).getD (j-(a+1)) []).drop (k+1)))))
 |0,i,hi=>by
  have hcl:=zAt h hk;rw[vR (x:=x) (k:=k+1+i) (by omega),Jbb (show(lvl x k).cs.length≤i by omega)];simp only[Rel,true_iff];exact⟨fun j h1 h2=>by omega,fun a h1 h2=>by omega⟩
 |d+1,i,hi=>by
  have hcl:=zAt h hk;have ih:=zOq d (i+1) (by omega);rw[show k+1+(i+1)=k+1+i+1 from by omega]at ih;have hj:k+1+i<x.zA.length:=by omega
  have hg:(lvl x k).cs.drop i=(lvl x k).cs.getD i []::(lvl x k).cs.drop (i+1):=by
   rw[H7 (by omega),J2,J3 (by omega)];rfl
  rw[yF hj,hg];simp only[Rel];rw[ih];have e1:=zTP h hk (j:=k+1+i) (by omega) hj;rw[show k+1+i-k=i+1 from by omega]at e1;have ho:(lvl x (k+1+i)).o=at0 x.zA (k+1+i):=rfl;rw[ho,←e1];have e2:∀j,k+1+i+1≤j→j<x.zA.length→ ∀dd,(lvl x (k+1+i)).cs[j-(k+1+i+1)]? =some dd→img (mul (suf x (k+1))) ((lvl x k).cs.drop (i+1)) dd (zeros (suf x (k+1)).length)=sig (suf x (k+1)) (lvl x k) (((x.zC.getD (k+1+i) []).getD (j-(k+1+i+1)) []).drop (k+1)):=fun j h1 h2 dd hdd=>by
   obtain⟨_,t2,t3⟩:=h.tl (k+1+i) hj;have t:=t3 (j-(k+1+i+1)) (by omega);rw[zH3 t hj (by omega),sig,zF3 _ _ _ _ (by omega),show k+1+i+1-(k+1)=i+1 from by omega]
   congr 1
   simp only[lvl,K1,Lb]at hdd;obtain⟨u,hu,rfl⟩:=hdd;rw[J2 (i:=j-(k+1+i+1)),hu];rfl
  have e3:∀j,k+1+i+1≤j→j<x.zA.length→((lvl x k).cs.drop (i+1))[j-(k+1+i+1)]? =some ((lvl x k).cs.getD (j-(k+1)) [])∧ ∃dd,(lvl x (k+1+i)).cs[j-(k+1+i+1)]? =some dd:=fun j h1 h2=>by
   have hcl2:=zAt h hj;refine⟨?_,?_⟩
   ·rw[Kq,show i+1+(j-(k+1+i+1))=j-(k+1)from by omega,J2,J3 (by omega)];rfl
   ·exact⟨_,J3 (by omega)⟩
  constructor
  ·rintro⟨a1,a2,a3,a4⟩
   refine⟨fun j h1 h2=>?_,fun a h1 h2 j h3 h4=>?_⟩
   ·rcases Jk (k+1+i) j with hlt|hge
    ·exact a3 j (by omega) h2
    ·obtain rfl:j=k+1+i:=by omega
     rw[show k+1+i-(k+1)=i from by omega];exact a1
   ·rcases Jk (k+1+i) a with hlt|hge
    ·exact a4 a (by omega) h2 j h3 h4
    ·obtain rfl:a=k+1+i:=by omega
     obtain⟨f1,dd,f2⟩:=e3 j (by omega) h4;have:=a2 _ _ _ f1 f2;rw[e2 j (by omega) h4 dd f2]at this;rw[show k+1+i-(k+1)=i from by omega];exact this
  ·rintro⟨a1,a2⟩
   refine⟨?_,fun kk c dd h1 h2=>?_,fun j h1 h2=>a1 j (by omega) h2,fun a h1 h2=>a2 a (by omega) h2⟩
   ·have:=a1 (k+1+i) (by omega) hj
    rw[show k+1+i-(k+1)=i from by omega]at this;exact this
   ·have hlt:kk<x.zA.length-(k+1+i+1):=by
     have:=(Jb.1 h1).1;rw[Jx]at this;omega
    have g:=a2 (k+1+i) (by omega) hj (k+1+i+1+kk) (by omega) (by omega);obtain⟨f1,_⟩:=e3 (k+1+i+1+kk) (by omega) (by omega);rw[show k+1+i+1+kk-(k+1+i+1)=kk from by omega]at f1 g;rw[h1]at f1;have f1:=L4.inj f1;have g2:=e2 (k+1+i+1+kk) (by omega) (by omega) dd (by rw[show k+1+i+1+kk-(k+1+i+1)=kk from by omega];exact h2);rw[show k+1+i+1+kk-(k+1+i+1)=kk from by omega]at g2;rw[g2,f1];rw[show k+1+i-(k+1)=i from by omega]at g;exact g
theorem zA4:wR (suf x k)↔wR (suf x (k+1))∧LC x k:=by
 have hr:=zOq h hk (x.zA.length-(k+1)) 0 (by omega);have hl:=yN x (k+1);rw[G7,Gf]at hr;rw[yF hk];simp only[wR];rw[hr];constructor
 ·rintro⟨a,⟨b1,b2⟩,c,d⟩
  refine⟨a,⟨b1,b2,c,fun j h1 h2=>?_⟩⟩;have:=d (j-(k+1)) (by omega)
  rwa [hl]at this
 ·rintro⟨a,b⟩
  refine⟨a,⟨b.c1,b.c2⟩,b.c3,fun j hj=>?_⟩;have:=b.c4 (k+1+j) (by omega) (by omega);rw[show k+1+j-(k+1)=j from by omega]at this
  rwa [hl]
end
theorem zBt{x:SPr}(h:wR (suf x 0))(k:Nat):wR (suf x k):=by
 have:=zEE h k
 rwa [Je]at this
def zDY(x:SPr):Prop:=Pres x∧wR (suf x 0)∧zFY x
theorem zEG{x:SPr}(hl:x.zA.length≤1048576):IsB (zUz x) (zDY x):=by
 unfold zUz;rcases zDs hl with⟨h1,h2⟩|⟨h1,h2⟩
 ·have h6:=h2.os.1
  rw[h1,bs,zQ];unfold zXa;obtain⟨r,r1,r2⟩:=tD (body:=zLT x) (Q:=fun r=> ∃s:Nat,r=(s:Int)∧wR (suf x s)∧(s=0∨ ¬wR (suf x (s-1)))) (fun i s=>i≤x.zA.length∧s=((x.zA.length-i:Nat):Int)∧wR (suf x (x.zA.length-i))) x.zA.length (fun i s hi ⟨_,hs,hcs⟩=>by
    subst hs;have hk:x.zA.length-i-1<x.zA.length:=by omega
    have e9:x.zA.length-(i+1)=x.zA.length-i-1:=by omega
    rw[e9];have e8:i+1≤x.zA.length:=by omega
    rw[show x.zA.length-i=x.zA.length-i-1+1 from by omega]at hcs ⊢
    have hlev:=zMG h2.toPres hk hcs;have hiff:=zA4 h2.toPres.w hk
    generalize x.zA.length-i-1=k at*
    unfold zLT;rw[decide_eq_true (by omega),zQ,zE (by omega) (by omega),bs,show(((k+1:Nat):Int)-1)=(k:Int)from by omega];rcases hlev with⟨g1,g2⟩|⟨r,g1,g2,g3⟩
    ·left
     rw[g1,bs];simp only[beq_self_eq_true,Bool.and_true];rw[zQ,bs];exact⟨_,rfl,e8,rfl,hiff.2 ⟨hcs,g2⟩⟩
    ·right
     rw[g1,bs,show(r.Kind==0)=false from by simpa using g2,Jcz,zL];refine⟨_,rfl,k+1,rfl,hcs,.inr fun q=>g3 (hiff.1 q).2⟩) (fun s ⟨_,hs,hcs⟩=>by
    rw[Kr]at hs hcs;subst hs;unfold zLT;rw[show decide (((0:Nat):Int)> 0)=false from rfl,zL];exact⟨_,rfl,0,rfl,hcs,.inl rfl⟩) (s:=(x.zA.length:Int)) ⟨by omega,by rw[U7],by rw[U7,vR (by omega)];simp only[wR]⟩
  obtain⟨s,rfl,hcs,hs⟩:=r2;rw[r1,bs,bs];cases s with
  |zero=>exact .inl ⟨rfl,h2.toPres,hcs,h2⟩
  |succ s=>
   refine .inr ⟨?_,fun q=>?_⟩
   ·congr 1
   ·rcases hs with hs|hs
    ·omega
    ·exact hs (zBt q.2.1 _)
 ·rw[h1,bs,zL]
  exact .inr ⟨rfl,fun q=>h2 q.2.2⟩
theorem zMI{x:SPr}(hl:x.zA.length≤1048576):IsB (zUs x) (zDY x):=by
 unfold zUs;rcases zDt hl with⟨h1,h2⟩|⟨h1,h2⟩
 ·have h6:=h2.os.1
  rw[h1,bs,zQ];unfold zWU zWT;rw[zE (by omega) (by omega),bs];obtain⟨r,r1,r2⟩:=tD (body:=zLQ x) (Q:=fun r=>(r=.inl ()∧wR (suf x 0))∨ ∃f,r=.inr f∧f.Kind≠0∧ ¬wR (suf x 0)) (fun i s=>i≤x.zA.length∧s=((x.zA.length-i:Nat):Int)-1∧wR (suf x (x.zA.length-i))) x.zA.length (fun i s hi ⟨_,hs,hcs⟩=>by
    subst hs;have hk:x.zA.length-i-1<x.zA.length:=by omega
    have e9:x.zA.length-(i+1)=x.zA.length-i-1:=by omega
    rw[e9];have e8:i+1≤x.zA.length:=by omega
    rw[show x.zA.length-i=x.zA.length-i-1+1 from by omega]at hcs ⊢
    have hlev:=zMH h2.toPres hk hcs;have hiff:=zA4 h2.toPres.w hk
    generalize x.zA.length-i-1=k at*
    unfold zLQ;rw[show(((k+1:Nat):Int)-1)=(k:Int)from by omega,decide_eq_true (by omega),zQ];rcases hlev with⟨g1,g2⟩|⟨r,g1,g2,g3⟩
    ·left
     rw[g1,bs];simp only
     rw[show((0:Int) != 0)=false from rfl,zL,zE (by omega) (by omega),bs];exact⟨_,rfl,e8,rfl,hiff.2 ⟨hcs,g2⟩⟩
    ·right
     rw[g1,bs,show(r.Kind != 0)=true from by simpa using g2,zQ];exact⟨_,rfl,.inr ⟨r,rfl,g2,fun q=>g3 (hiff.1 (zBt q _)).2⟩⟩) (fun s ⟨_,hs,hcs⟩=>by
    rw[Kr]at hs hcs;subst hs;unfold zLQ;rw[show decide (((0:Nat):Int)-1≥0)=false from rfl,zL];exact⟨_,rfl,.inl ⟨rfl,hcs⟩⟩) (s:=(x.zA.length:Int)-1) ⟨by omega,by rw[U7],by rw[U7,vR (by omega)];simp only[wR]⟩
  rw[r1,bs];rcases r2 with⟨rfl,q⟩|⟨f,rfl,g1,g2⟩
  ·exact .inl ⟨rfl,h2.toPres,q,h2⟩
  ·simp only
   rw[bs,show(f.Kind==0)=false from by simpa using g1];exact .inr ⟨rfl,fun q=>g2 q.2.1⟩
 ·rw[h1,bs,zL]
  exact .inr ⟨rfl,fun q=>h2 q.2.2⟩
end Go.Pl

namespace Go.Pl
open Go Go.Ab Go.Wk
abbrev Mx:=List (List Int)
def S:Nat→(Nat→Int)→Int
 |0,_=>0
 |n+1,f=>S n f+f n
theorem xE{n:Nat}{f g:Nat→Int}(h:∀i,i<n→f i=g i):S n f=S n g:=by
 induction n with
 |zero=>rfl
 |succ n ih=>simp only[S];rw[ih fun i hi=>h i (by omega),h n (by omega)]
theorem kO{p:Int}{f g:Nat→Int}:∀{n:Nat},(∀i,i<n→f i%p=g i%p)→S n f%p=S n g%p
 |0,_=>rfl
 |n+1,h=>by
  simp only[S];rw[Ko,kO (n:=n) fun i hi=>h i (by omega),h n (by omega),←Ko]
theorem qG:∀n:Nat,S n (fun _=>0)=0
 |0=>rfl
 |n+1=>by simp only[S,qG n];rfl
theorem zCB{f g:Nat→Int}:∀n:Nat,S n (fun i=>f i+g i)=S n f+S n g
 |0=>rfl
 |n+1=>by simp only[S,zCB n];omega
theorem zLm{f:Nat→Int}(a:Int):∀n:Nat,S n (fun i=>f i*a)=S n f*a
 |0=>by simp[S]
 |n+1=>by simp only[S,zLm a n,Qj]
theorem zCC{f:Nat→Int}(a:Int):∀n:Nat,S n (fun i=>a*f i)=a*S n f
 |0=>by simp[S]
 |n+1=>by simp only[S,zCC a n,Jad]
theorem zH4{f:Nat→Nat→Int}(m:Nat):∀n:Nat,S n (fun i=>S m (fun j=>f i j))=S m (fun j=>S n (fun i=>f i j))
 |0=>by simp only[S];exact(qG m).symm
 |n+1=>by simp only[S];rw[zH4 m n,zCB]
theorem zAd{f:Nat→Int}{k:Nat}:∀{n:Nat},k<n→(∀i,i<n→i≠k→f i=0)→S n f=f k
 |0,h,_=>by omega
 |n+1,h,hz=>by
  simp only[S]
  by_cases hk:k=n
  ·subst hk
   rw[xE (g:=fun _=>0) fun i hi=>hz i (by omega) (by omega),qG];omega
  ·rw[zAd (n:=n) (by omega) fun i hi=>hz i (by omega),hz n (by omega) (by omega)];omega
def mkv(D:Nat)(f:Nat→Int):List Int:=(Jw D).map f
theorem yD(D:Nat)(f:Nat→Int):(mkv D f).length=D:=by simp[mkv]
theorem zDd{D:Nat}{f:Nat→Int}{i:Nat}(h:i<D):(mkv D f)[i]? =some (f i):=by simp[mkv,h]
theorem yH{D:Nat}{f:Nat→Int}{i:Nat}(h:i<D):at0 (mkv D f) i=f i:=by
 rw[at0,J2,zDd h];rfl
theorem zY{D:Nat}{f g:Nat→Int}(h:∀i,i<D→f i=g i):mkv D f=mkv D g:=by
 unfold mkv;apply Qq;intro i hi;exact h i (by simpa using hi)
theorem zAo{D:Nat}{f:Nat→Int}{j:Nat}{a:Int}:(mkv D f).set j a=mkv D (fun i=>if i=j then a else f i):=by
 apply L7;intro i;rw[Jc8,yD]
 by_cases hi:i<D
 ·by_cases hij:j=i
  ·subst hij;rw[if_pos rfl,if_pos hi,zDd hi,if_pos rfl]
  ·rw[if_neg hij,zDd hi,zDd hi,if_neg fun h=>hij h.symm]
 ·have h1:∀g:Nat→Int,(mkv D g)[i]? =none:=fun g=>Jz (by rw[yD];omega)
  rw[h1,h1]
  by_cases hij:j=i
  ·subst hij;rw[if_pos rfl,if_neg hi]
  ·rw[if_neg hij]
theorem uE{v:List Int}{D:Nat}(h:v.length=D):v=mkv D (at0 v):=by
 apply L7;intro i
 by_cases hi:i<D
 ·rw[zDd hi,at0,J2,J3 (by omega)];rfl
 ·rw[Jz (by omega),Jz (by rw[yD];omega)]
theorem qL(D:Nat):J1 D (0:Int)=mkv D (fun _=>0):=by
 apply L7;intro i
 by_cases hi:i<D
 ·rw[zDd hi];simp[hi]
 ·rw[Jz (by simp;omega),Jz (by rw[yD];omega)]
abbrev ent(B:Mx)(l j:Nat):Int:=at0 (B.getD l []) j
def wD(p:Int)(D:Nat)(r:List Int)(B:Mx):List Int:=mkv D fun j=>S D (fun l=>at0 r l*ent B l j)%p
def PM(p:Int)(D:Nat)(A B:Mx):Mx:=A.map fun r=>wD p D r B
def idM(D:Nat):Mx:=(Jw D).map fun i=>mkv D fun j=>if j=i then 1 else 0
def Row(p:Int)(D:Nat)(r:List Int):Prop:=r.length=D∧ ∀i,i<D→0≤at0 r i∧at0 r i≤p-1
def Mat(p:Int)(D:Nat)(A:Mx):Prop:=A.length=D∧ ∀i,i<D→Row p D (A.getD i [])
theorem zBG{p:Int}{D i:Nat}{A B:Mx}(h:i<A.length):(PM p D A B).getD i []=wD p D (A.getD i []) B:=by
 simp only[PM,J2,K1,J3 h];rfl
theorem vY{p:Int}{D:Nat}{A B:Mx}:(PM p D A B).length=A.length:=by simp[PM]
theorem zCD{p:Int}{D:Nat}{A B:Mx}(hp:0<p)(hA:A.length=D):Mat p D (PM p D A B):=by
 refine⟨by rw[vY,hA],fun i hi=>?_⟩;rw[zBG (by omega)];refine⟨by rw[wD,yD],fun j hj=>?_⟩;rw[wD,yH hj];have h1:=La (S D fun l=>at0 (A.getD i []) l*ent B l j) (show p≠0 by omega);have h2:=Kw (S D fun l=>at0 (A.getD i []) l*ent B l j) hp;omega
theorem zMJ{p:Int}{D i j:Nat}{A B:Mx}(hA:A.length=D)(hi:i<D)(hj:j<D):ent (PM p D A B) i j=S D (fun l=>ent A i l*ent B l j)%p:=by
 rw[ent,zBG (by omega),wD,yH hj]
theorem zH5{D:Nat}{A B:Mx}(hA:A.length=D)(hB:B.length=D)(h:∀i,i<D→A.getD i []=B.getD i []):A=B:=by
 apply L7;intro i
 by_cases hi:i<D
 ·have:=h i hi
  rw[J2,J2,J3 (by omega),J3 (by omega)]at this;rw[J3 (by omega),J3 (by omega)];exact congrArg some this
 ·rw[Jz (by omega),Jz (by omega)]
theorem zLn{p:Int}{D:Nat}{A B C:Mx}(hA:A.length=D)(hB:B.length=D):PM p D (PM p D A B) C=PM p D A (PM p D B C):=by
 refine zH5 (by rw[vY,vY,hA]) (by rw[vY,hA]) fun i hi=>?_
 rw[zBG (A:=PM p D A B) (by rw[vY];omega),zBG (A:=A) (B:=PM p D B C) (by omega)];unfold wD;refine zY fun j hj=>?_
 have e1:S D (fun l=>at0 ((PM p D A B).getD i []) l*ent C l j)%p=S D (fun l=>S D (fun q=>ent A i q*ent B q l)*ent C l j)%p:=kO fun l hl=>by
  have:=zMJ (p:=p) (B:=B) hA hi hl;simp only[ent]at this ⊢
  rw[this,Jv,Kc,←Jv]
 have e2:S D (fun l=>at0 (A.getD i []) l*ent (PM p D B C) l j)%p=S D (fun q=>ent A i q*S D (fun l=>ent B q l*ent C l j))%p:=kO fun q hq=>by
  rw[zMJ hB hq hj,Jv,Kc,←Jv]
 rw[e1,e2]
 congr 1
 have e3:(fun l=>S D (fun q=>ent A i q*ent B q l)*ent C l j)=fun l=>S D (fun q=>ent A i q*ent B q l*ent C l j):=funext fun l=>(zLm _ _).symm
 have e4:(fun q=>ent A i q*S D (fun l=>ent B q l*ent C l j))=fun q=>S D (fun l=>ent A i q*ent B q l*ent C l j):=funext fun q=>by
  rw[←zCC];exact xE fun l _=>by rw[He]
 rw[e3,e4];exact zH4 D D
theorem uF(D:Nat):(idM D).length=D:=by simp[idM]
theorem zDe{D i:Nat}(h:i<D):(idM D).getD i []=mkv D fun j=>if j=i then 1 else 0:=by simp[idM,J2,h]
theorem sE{p:Int}{D:Nat}(hp:2≤p):Mat p D (idM D):=by
 refine⟨uF D,fun i hi=>?_⟩;rw[zDe hi];refine⟨yD _ _,fun j hj=>?_⟩;rw[yH hj];split<;>omega
theorem sY{p a:Int}(h:0≤a∧a≤p-1):a%p=a:=Kh h.1 (by omega)
theorem zBH{p:Int}{D:Nat}{B:Mx}(hB:Mat p D B):PM p D (idM D) B=B:=by
 refine zH5 (by rw[vY,uF]) hB.1 fun i hi=>?_
 rw[zBG (by rw[uF];exact hi),zDe hi,wD];obtain⟨h1,h2⟩:=hB.2 i hi;refine Eq.trans (zY fun j hj=>?_) (uE h1).symm;rw[zAd (k:=i) hi fun l hl hne=>by rw[yH hl,if_neg hne,Ux],yH hi,if_pos rfl,Jab];exact sY (h2 j hj)
theorem zCE{p:Int}{D:Nat}{A:Mx}(hA:Mat p D A):PM p D A (idM D)=A:=by
 refine zH5 (by rw[vY,hA.1]) hA.1 fun i hi=>?_
 rw[zBG (by rw[hA.1];exact hi),wD];obtain⟨h1,h2⟩:=hA.2 i hi;refine Eq.trans (zY fun j hj=>?_) (uE h1).symm;rw[zAd (k:=j) hj fun l hl hne=>by rw[ent,zDe hl,yH hj,if_neg (fun h=>hne h.symm),L9],ent,zDe hj,yH hj,if_pos rfl,Hl];exact sY (h2 j hj)
theorem zRv{p:Int}{D i j:Nat}{B:Mx}(hB:Mat p D B)(hi:i<D)(hj:j<D):ixO B (i:Int)=some (B.getD i [])∧ixO (B.getD i []) (j:Int)=some (ent B i j)∧(B.getD i []).length=D∧0≤ent B i j∧ent B i j≤p-1:=by
 obtain⟨h1,h2⟩:=hB.2 i hi;have:=hB.1;exact⟨yY [] (by omega),xD (by omega),h1,h2 j hj⟩
def acc(p:Int)(D i:Nat)(r:List Int)(B:Mx):List Int:=mkv D fun j=>S i (fun l=>at0 r l*ent B l j)%p
def zDu(p:Int)(D i k:Nat)(r:List Int)(B:Mx):List Int:=mkv D fun j=>if j<k then S (i+1) (fun l=>at0 r l*ent B l j)%p else S i (fun l=>at0 r l*ent B l j)%p
theorem zIT{p:Int}{D i:Nat}{r:List Int}{B:Mx}:zDu p D i 0 r B=acc p D i r B:=zY fun j _=>by rw[if_neg (by omega)]
theorem zIU{p:Int}{D i:Nat}{r:List Int}{B:Mx}:zDu p D i D r B=acc p D (i+1) r B:=zY fun j hj=>by rw[if_pos hj]
theorem zLo{p:Int}{D i k:Nat}{r:List Int}{B:Mx}(hk:k<D){a:Int}(ha:a=(at0 (zDu p D i k r B) k+at0 r i*ent B i k)%p):(zDu p D i k r B).set k a=zDu p D i (k+1) r B:=by
 subst ha;simp only[zDu];rw[zAo,yH hk,if_neg (by omega)];refine zY fun j hj=>?_
 by_cases hjk:j=k
 ·subst hjk
  rw[if_pos rfl,if_pos (by omega)];simp only[S];rw[Int.emod_add_emod]
 ·rw[if_neg hjk]
  by_cases hlt:j<k
  ·rw[if_pos hlt,if_pos (by omega)]
  ·rw[if_neg hlt,if_neg (by omega)]
theorem zLp{p:Int}{D i k j:Nat}{r:List Int}{B:Mx}(hp:0<p)(hj:j<D):0≤at0 (zDu p D i k r B) j∧at0 (zDu p D i k r B) j≤p-1:=by
 rw[zDu,yH hj];split
 ·have h1:=La (S (i+1) fun l=>at0 r l*ent B l j) (show p≠0 by omega)
  have h2:=Kw (S (i+1) fun l=>at0 r l*ent B l j) hp;omega
 ·have h1:=La (S i fun l=>at0 r l*ent B l j) (show p≠0 by omega)
  have h2:=Kw (S i fun l=>at0 r l*ent B l j) hp;omega
theorem zH6{p:Int}{D i k:Nat}{r:List Int}{B:Mx}:(zDu p D i k r B).length=D:=yD _ _
theorem zOr{p:Int}{D i k j:Nat}{r:List Int}{B:Mx}(hj:j<D):ixO (zDu p D i k r B) (j:Int)=some (at0 (zDu p D i k r B) j):=xD (by rw[zH6];exact hj)
theorem zLq{p:Int}{D:Nat}{r:List Int}{B:Mx}:J1 D (0:Int)=acc p D 0 r B:=by
 rw[qL];exact zY fun j _=>by simp[S]
theorem zIV{a b p:Int}(hp:p≤7)(ha:0≤a∧a≤p-1)(hb:0≤b∧b≤p-1):0≤a*b∧a*b≤36:=by
 have h1:0≤a*b:=Qi ha.1 hb.1;have h2:a*b≤6*6:=Lt (by omega) (by omega) hb.1 (by omega);omega
section
variable {p:Int}{D:Nat} (hp:Prime p) (hD:D≤8)
 include hp hD
theorem zH7{r:List Int}{B:Mx}(hr:Row p D r)(hB:Mat p D B):f_H p r B (D:Int)=some (wD p D r B):=by
 have h7:=hp.pos;have hBl:=hB.1;have hrl:=hr.1;unfold f_H;rw[wJ (by omega),bs,zLq (p:=p) (r:=r) (B:=B)];have:=yB (body:=zSy p r B) (r:=acc p D D r B) (fun i=>(acc p D i r B,(i:Int))) D (fun i hi=>by
  have hri:=hr.2 i hi;unfold zSy;simp only
  rw[hrl,hBl,xV hi,zQ,zQ];have inner:=yB (body:=zSx p r B (acc p D i r B,(i:Int))) (r:=acc p D (i+1) r B) (fun k=>(zDu p D i k r B,(k:Int))) D (fun k hk=>by
   obtain⟨b1,b2,b3,b4⟩:=zRv hB hi hk;have ha:=zLp (p:=p) (i:=i) (k:=k) (r:=r) (B:=B) (by omega) hk;have hm:=zIV (by omega) hri b4;unfold zSx;simp only
   rw[zH6,xV hk,zQ,b1,bs,b3,xV hk,zQ,zOr hk,bs,xD (by omega),bs,bs,b2,bs,zE (by omega) (by omega),bs,zE (by omega) (by omega),bs];have hrem:uL (at0 (zDu p D i k r B) k+at0 r i*ent B i k) p=some ((at0 (zDu p D i k r B) k+at0 r i*ent B i k)%p):=by
    unfold uL;rw[if_neg (by omega),Li (by omega)]
   rw[hrem,bs,bs,zE (by omega) (by omega),bs,cs,Jg,zLo hk rfl]) (by
   unfold zSx;simp only
   rw[zH6,wC,zL,zIU])
  rw[zIT,show((0:Nat):Int)=0 from rfl]at inner;rw[inner,bs,zE (by omega) (by omega),bs,cs]) (by
  unfold zSy;simp only
  rw[hrl,wC,zL])
 rw[show((0:Nat):Int)=0 from rfl]at this;rw[this,bs];rfl
theorem zJG{a:Int}(h0:0≤a)(_h1:a≤1000):zKk a p=some (a%p):=by
 have _:=hD;have h7:=hp.pos;have e1:=La a (show p≠0 by omega);have e2:=Kw a (show 0<p by omega);unfold zKk uL;rw[if_neg (by omega),bs,Li h0,zE (by omega) (by omega),bs,if_neg (by omega),bs,Li (by omega)]
 congr 1
 rw[Um,Kc]
theorem zF4{i:Nat}{r:List Int}{B:Mx}(hi:i<D)(hr:Row p D r)(hB:Mat p D B):f_v (acc p D i r B) (B.getD i []) (at0 r i) p=some (acc p D (i+1) r B):=by
 have h7:=hp.pos;have hri:=hr.2 i hi;unfold f_v;have hl:(acc p D i r B).length=D:=yD _ _;have inner:=yB (body:=zLV (acc p D i r B) (B.getD i []) (at0 r i) p) (r:=acc p D (i+1) r B) (fun k=>(zDu p D i k r B,(k:Int))) D (fun k hk=>by
  obtain⟨b1,b2,b3,b4⟩:=zRv hB hi hk;have ha:=zLp (p:=p) (i:=i) (k:=k) (r:=r) (B:=B) (by omega) hk;have hm:=zIV (by omega) hri b4;unfold zLV;simp only
  rw[hl,xV hk,zQ,zOr hk,bs,b2,bs,zE (by omega) (by omega),bs,zE (by omega) (by omega),bs,zJG hp hD (by omega) (by omega),bs,bs,zE (by omega) (by omega),bs,cs,Jg,zLo hk rfl]) (by
  unfold zLV;simp only
  rw[hl,wC,zL,zIU])
 rw[zIT,show((0:Nat):Int)=0 from rfl]at inner;rw[inner,bs]
theorem zF5{r:List Int}{B:Mx}{q:Int}(hr:Row p D r)(hB:Mat p D B)(hq:q=(D:Int)):zU3 r (zU.mk p q B)=some (wD p D r B):=by
 subst hq;have hrl:=hr.1;unfold zU3;simp only
 rw[wJ (by omega),bs,zLq (p:=p) (r:=r) (B:=B)];have:=yB (body:=zLW r (zU.mk p (D:Int) B)) (r:=acc p D D r B) (fun i=>(acc p D i r B,(i:Int))) D (fun i hi=>by
  have hBl:=hB.1;unfold zLW;simp only
  rw[hrl,xV hi,zQ,xD (by omega),bs,yY [] (by omega),bs,zF4 hp hD hi hr hB,bs,zE (by omega) (by omega),bs,cs]) (by
  unfold zLW;simp only
  rw[hrl,wC,zL])
 rw[show((0:Nat):Int)=0 from rfl]at this;rw[this,bs];rfl
theorem zIW{A B:Mx}{i:Nat}(hi:i<A.length):(PM p D A B).take i++[wD p D (A.getD i []) B]=(PM p D A B).take (i+1):=by
 have _:=hp;have _:=hD;rw[Ka (by rw[vY];exact hi)]
 congr 2
 have:=zBG (p:=p) (D:=D) (B:=B) hi;rw[J2,J3 (by rw[vY];exact hi)]at this;exact this.symm
theorem kE{A B:Mx}(hA:Mat p D A)(hB:Mat p D B):f_R p A B (D:Int)=some (PM p D A B):=by
 have hAl:=hA.1;unfold f_R;have:=yB (body:=zSz p A B (D:Int)) (r:=PM p D A B) (fun i=>((PM p D A B).take i,(i:Int))) D (fun i hi=>by
  unfold zSz;simp only
  rw[hAl,xV hi,zQ,yY [] (by omega),bs,zH7 hp hD (hA.2 i hi) hB,bs,xK (by rw[Jy,vY];simp;omega),bs,zE (by omega) (by omega),bs,cs,zIW hp hD (by omega)]) (by
  unfold zSz;simp only
  rw[hAl,wC,zL,Jr (by rw[vY];omega)])
 rw[show((0:Nat):Int)=0 from rfl,K8]at this;rw[this,bs]
theorem zIl{A B:Mx}{q:Int}(hA:Mat p D A)(hB:Mat p D B):zU4 (zU.mk p q A) (zU.mk p (D:Int) B)=some (zU.mk p (D:Int) (PM p D A B)):=by
 have hAl:=hA.1;unfold zU4;have:=yB (body:=zLX (zU.mk p q A) (zU.mk p (D:Int) B)) (r:=PM p D A B) (fun i=>((PM p D A B).take i,(i:Int))) D (fun i hi=>by
  unfold zLX;simp only
  rw[hAl,xV hi,zQ,yY [] (by omega),bs,zF5 hp hD (hA.2 i hi) hB rfl,bs,xK (by rw[Jy,vY];simp;omega),bs,zE (by omega) (by omega),bs,cs,zIW hp hD (by omega)]) (by
  unfold zLX;simp only
  rw[hAl,wC,zL,Jr (by rw[vY];omega)])
 rw[show((0:Nat):Int)=0 from rfl,K8]at this;rw[this,bs]
theorem zLr{i:Nat}(_hi:i<D):(J1 D (0:Int)).set i 1=mkv D fun j=>if j=i then 1 else 0:=by
 have _:=hp;have _:=hD;rw[qL,zAo]
theorem zOs{i:Nat}(hi:i<D):(idM D).take i++[mkv D fun j=>if j=i then 1 else 0]=(idM D).take (i+1):=by
 have _:=hp;have _:=hD;rw[Ka (by rw[uF];exact hi)]
 congr 2
 have:=zDe hi;rw[J2,J3 (by rw[uF];exact hi)]at this;exact this.symm
theorem zH8:f_I (D:Int)=some (idM D):=by
 unfold f_I;have:=yB (body:=zLR (D:Int)) (r:=idM D) (fun i=>((idM D).take i,(i:Int))) D (fun i hi=>by
  unfold zLR;simp only
  rw[xV hi,zQ,wJ (by omega),bs,uR,Kz,if_pos hi,bs,Jg,zLr hp hD hi,xK (by rw[Jy,uF];simp;omega),bs,zE (by omega) (by omega),bs,cs,zOs hp hD hi]) (by
  unfold zLR;simp only
  rw[wC,zL,Jr (by rw[uF];omega)])
 rw[show((0:Nat):Int)=0 from rfl,K8]at this;rw[this,bs]
theorem zD8:f_M p (D:Int)=some (zU.mk p (D:Int) (idM D)):=by
 unfold f_M;have:=yB (body:=zST (D:Int)) (r:=idM D) (fun i=>((idM D).take i,(i:Int))) D (fun i hi=>by
  unfold zST;simp only
  rw[xV hi,zQ,wJ (by omega),bs,uR,Kz,if_pos hi,bs,Jg,zLr hp hD hi,xK (by rw[Jy,uF];simp;omega),bs,zE (by omega) (by omega),bs,cs,zOs hp hD hi]) (by
  unfold zST;simp only
  rw[wC,zL,Jr (by rw[uF];omega)])
 rw[show((0:Nat):Int)=0 from rfl,K8]at this;rw[this,bs]
end
end Go.Pl

namespace Go.Pl
open Go Go.Ab Go.Wk Go.Pc
def nw:Nat→List Int→List Nat
 |_,[]=>[]
 |o,a::v=>J1 a.toNat o++nw (o+1) v
theorem zDf:∀(o:Nat)(u v:List Int),nw o (u++v)=nw o u++nw (o+u.length) v
 |o,[],v=>by simp[nw]
 |o,a::u,v=>by
  simp only[Jn,nw,zDf (o+1) u v,Ja,J7];rw[show o+1+u.length=o+(u.length+1)from by omega]
theorem zOt{v:List Int}{i:Nat}(h:i<v.length):nw 0 (v.take (i+1))=nw 0 (v.take i)++J1 (at0 v i).toNat i:=by
 rw[Ka h,zDf,Jy,Gd (by omega),Je];simp only[nw,J9];rw[at0,J2,J3 h];rfl
theorem zLs{n:Nat}:∀(o:Nat)(v:List Int),o+v.length≤n→ ∀w∈nw o v,w<n
 |o,[],_,w,h=>by simp[nw]at h
 |o,a::v,hv,w,h=>by
  simp only[nw,Jh,J7]at h hv;rcases h with h|h
  ·have:=Js h;omega
  ·exact zLs (o+1) v (by omega) w h
theorem zF6:∀(o:Nat)(v:List Int),(∀i,i<v.length→at0 v i≤6)→(nw o v).length≤6*v.length
 |o,[],_=>by simp[nw]
 |o,a::v,h=>by
  have h0:=h 0 (by simp);have:=zF6 (o+1) v fun i hi=>by
   have:=h (i+1) (by simpa using hi);simpa[at0]using this
  simp only[at0,Lu]at h0;simp only[nw,J5,Ji,J7];omega
def wM(p:Int)(D:Nat)(A:List Mx)(ws:List Nat)(B:Mx):Mx:=ws.foldl (fun B w=>PM p D B (A.getD w [])) B
theorem zDg{p:Int}{D:Nat}{A:List Mx}{u v:List Nat}{B:Mx}:wM p D A (u++v) B=wM p D A v (wM p D A u B):=by simp[wM,Qs]
theorem zH9{p:Int}{D:Nat}{A:List Mx}{w:Nat}:∀(k:Nat)(B:Mx),wM p D A (J1 k w) B=iter k (fun B=>PM p D B (A.getD w [])) B
 |0,_=>rfl
 |k+1,B=>by
  rw[Jq];show wM p D A (J1 k w) (PM p D B (A.getD w []))=_;rw[zH9 k];rfl
theorem zBI{p:Int}{D:Nat}{A:List Mx}(hp:0<p):∀(ws:List Nat){B:Mx},Mat p D B→Mat p D (wM p D A ws B)
 | [],_,hB=>hB
 |_w::ws,_,hB=>zBI hp ws (zCD hp hB.1)
theorem zHA{p:Int}{D:Nat}{A:List Mx}(hp:0<p){C:Mx}(hC:C.length=D):∀(ws:List Nat){B:Mx},Mat p D B→wM p D A ws (PM p D C B)=PM p D C (wM p D A ws B)
 | [],_,_=>rfl
 |w::ws,B,hB=>by
  show wM p D A ws (PM p D (PM p D C B) (A.getD w []))=PM p D C (wM p D A ws (PM p D B (A.getD w [])));rw[zLn hC hB.1,zHA hp hC ws (zCD hp hB.1)]
structure MOk (n:Nat) (m:zH) (D:Nat):Prop where
 p:Prime m.Prime
 d:m.Dim=(D:Int)
 d1:1≤D
 d3:D≤3
 len:m.zF.length=n
 mat:∀i,i<n→Mat m.Prime D (m.zF.getD i [])
structure zRw (n:Nat) (m:zH) (D:Nat):Prop where
 p:Prime m.Prime
 d1:1≤D
 d3:D≤200
 len:m.zF.length=n
 mat:∀i,i<n→Mat m.Prime D (m.zF.getD i [])
theorem MOk.b{n D:Nat}{m:zH}(h:MOk n m D):zRw n m D:=⟨h.p,h.d1,by have:=h.d3;omega,h.len,h.mat⟩
section
variable {n D:Nat}{m:zH} (hm:MOk n m D) (hn:n≤9)
 include hm hn
theorem zLt{v:List Int}(hl:v.length=n)(hv:∀i,i<n→0≤at0 v i∧at0 v i≤6):f_J m v=some (wM m.Prime D m.zF (nw 0 v) (idM D)):=by
 have h7:=hm.p.pos;have h3:=hm.d3;have hlen:=hm.len;unfold f_J;rw[hm.d,zH8 hm.p (by omega),bs];have hI:∀i,Mat m.Prime D (wM m.Prime D m.zF (nw 0 (v.take i)) (idM D)):=fun i=>zBI (by omega) _ (sE h7.1)
 have:=yB (body:=zS1 m v) (r:=wM m.Prime D m.zF (nw 0 v) (idM D)) (fun i=>(wM m.Prime D m.zF (nw 0 (v.take i)) (idM D),(i:Int))) n (fun i hi=>by
  have hvi:=hv i hi;unfold zS1;simp only
  rw[hl,xV hi,zQ];rw[uW (S:=Mat m.Prime D) (body:=zS0 m v (wM m.Prime D m.zF (nw 0 (v.take i)) (idM D),(i:Int))) (fun B=>B) (fun B=>PM m.Prime D B (m.zF.getD i [])) (at0 v i) hvi.1 (fun B hB=>zCD (by omega) hB.1) (fun B q hB hq=>by
   unfold zS0;simp only
   rw[xD (by omega),bs,decide_eq_true hq,zQ,yY [] (by omega),bs,hm.d,kE hm.p (by omega) hB (hm.mat i hi),bs,zE (by omega) (by omega),bs,cs]) (fun B hB=>by
   unfold zS0;simp only
   rw[xD (by omega),bs,decide_eq_false (by omega),zL]) (hI i),bs,zE (by omega) (by omega),bs,cs]
  rw[zOt (by omega),zDg,zH9]) (by
  unfold zS1;simp only
  rw[hl,wC,zL,Jr (by omega)])
 rw[show((0:Nat):Int)=0 from rfl,K8]at this;simp only[nw,wM,Jc4]at this;rw[this,bs];rfl
abbrev enW(ws:List Nat):List Int:=ws.map fun(w:Nat)=>(w:Int)+1
theorem zIm{i:Nat}(hi:i<n):zPL m (i:Int)=some (zU.mk m.Prime (D:Int) (m.zF.getD i [])):=by
 have _:=hn;have hlen:=hm.len;unfold zPL;rw[yY [] (by omega),bs,hm.d]
theorem zAU{ws:List Nat}(hw:∀w∈ws,w<n)(hl:ws.length≤1000000):f_z m (enW ws)=some (zU.mk m.Prime (D:Int) (wM m.Prime D m.zF ws (idM D))):=by
 have h7:=hm.p.pos;have h3:=hm.d3;unfold f_z;rw[hm.d,zD8 hm.p (by omega),bs];have hI:∀i,Mat m.Prime D (wM m.Prime D m.zF (ws.take i) (idM D)):=fun i=>zBI (by omega) _ (sE h7.1)
 have hel:(enW ws).length=ws.length:=by simp only[enW,Jf]
 have:=yB (body:=zSU m (enW ws)) (r:=(m.Prime,(D:Int),wM m.Prime D m.zF ws (idM D))) (fun i=>(m.Prime,(D:Int),wM m.Prime D m.zF (ws.take i) (idM D),(i:Int))) ws.length (fun i hi=>by
  have hwi:=hw ws[i] (Kd hi);unfold zSU;simp only
  rw[hel,xV hi,zQ,uR,K1,J3 hi];simp only[Hx];rw[bs,zE (by omega) (by omega),bs,show((ws[i]:Nat):Int)+1-1=((ws[i]:Nat):Int)from by omega,zIm hm hn hwi,bs,zIl hm.p (by omega) (hI i) (hm.mat _ hwi),bs,zE (by omega) (by omega),bs,cs,Ka hi,zDg];rfl) (by
  unfold zSU;simp only
  rw[hel,wC,zL,Jr (by omega)])
 rw[show((0:Nat):Int)=0 from rfl,K8]at this;simp only[wM,Jc4]at this;simp only
 rw[this,bs];rfl
end
theorem kW{v:List Int}(hl:v.length≤9)(hv:∀i,i<v.length→0≤at0 v i∧at0 v i≤6):f_t v=some (enW (nw 0 v)):=by
 unfold f_t;have hlen:∀i,(nw 0 (v.take i)).length≤54:=fun i=>by
  have:=zF6 0 (v.take i) fun j hj=>by
   rw[Jy]at hj;have e:at0 (v.take i) j=at0 v j:=by simp only[at0,J2,H1];rw[if_pos (by omega)]
   rw[e];exact(hv j (by omega)).2
  rw[Jy]at this;omega
 have:=yB (body:=zSP v) (r:=enW (nw 0 v)) (fun i=>(enW (nw 0 (v.take i)),(i:Int))) v.length (fun i hi=>by
  have hvi:=hv i hi;have hli:=hlen i;unfold zSP;simp only
  rw[xV hi,zQ,xD hi,bs];have inner:=yB (body:=zSO (enW (nw 0 (v.take i)),(i:Int)) (at0 v i)) (r:=enW (nw 0 (v.take (i+1)))) (fun k=>(enW (nw 0 (v.take i)++J1 k i),(k:Int))) (at0 v i).toNat (fun k hk=>by
   unfold zSO;simp only
   rw[decide_eq_true (by omega),zQ,zE (by omega) (by omega),bs,xK (by simp only[Jf,J5,Ji,J7,K0];omega),bs,zE (by omega) (by omega),bs,cs]
   congr 3
   rw[H2,←Ja];simp only[enW,Lh,Jt,Hk];rfl) (by
   unfold zSO;simp only
   rw[decide_eq_false (by omega),zL,zOt hi])
  rw[show((0:Nat):Int)=0 from rfl,Hc,J9]at inner;rw[inner,bs,zE (by omega) (by omega),bs,cs]) (by
  unfold zSP;simp only
  rw[wC,zL,Lx])
 rw[show((0:Nat):Int)=0 from rfl,K8]at this;simp only[nw,enW,Hk]at this;rw[this,bs]
theorem zMK{v o:Int}(h:zU2 1 (IntKind.wrap .u64 o)=some (0,o)):zU2 (IntKind.wrap .u64 (([v]:List Int).length:Int)) (IntKind.wrap .u64 o)=some (0,o):=by
 rw[show IntKind.wrap .u64 (([v]:List Int).length:Int)=1 from by simp;decide];exact h
theorem zCF{v o:Int}(ho:Prime o):f_i [v] o=some (J1 o.toNat v):=by
 unfold f_i;rcases ho with rfl|rfl|rfl|rfl
 ·have h:=yB (body:=tJ) (r:=[v,v]) (fun i=>match i with|0=>([v,0],1)|_=>([v,v],2)) 1 (fun i hi=>by
   match i,hi with
   |0,_=>simp[tJ,yA,xQ,rng,inR]) (by simp[tJ])
  rw[zMK (by decide+kernel),bs];have hl:xH (IntKind.wrap .i64 2)=some 2:=by decide+kernel
  simp only[hl,bs];rw[show decide ((2:Int)<0)=false from rfl,zL,show decide ((0:Int)> 0)=false from rfl,zL,show decide ((2:Int)> 9223372036854775807)=false from by decide,zL];have e2:xQ (J1 2 (0:Int)) 0 (([v]:List Int).take ((J1 2 (0:Int)).length-0))=[v,0]:=by simp[xQ,J1]
  have e3:((min ([v]:List Int).length ((J1 2 (0:Int)).length-0):Nat):Int)=1:=by simp
  rw[e2,e3];have h':zJ tJ ([v,0],1)=_:=h;rw[h',bs];rfl
 ·have h:=yB (body:=tJ) (r:=[v,v,v]) (fun i=>match i with|0=>([v,0,0],1)|1=>([v,v,0],2)|_=>([v,v,v],3)) 2 (fun i hi=>by
   match i,hi with
   |0,_=>simp[tJ,yA,xQ,rng,inR]
   |1,_=>simp[tJ,yA,xQ,rng,inR]) (by simp[tJ])
  rw[zMK (by decide+kernel),bs];have hl:xH (IntKind.wrap .i64 3)=some 3:=by decide+kernel
  simp only[hl,bs];rw[show decide ((3:Int)<0)=false from rfl,zL,show decide ((0:Int)> 0)=false from rfl,zL,show decide ((3:Int)> 9223372036854775807)=false from by decide,zL];have e2:xQ (J1 3 (0:Int)) 0 (([v]:List Int).take ((J1 3 (0:Int)).length-0))=[v,0,0]:=by simp[xQ,J1]
  have e3:((min ([v]:List Int).length ((J1 3 (0:Int)).length-0):Nat):Int)=1:=by simp
  rw[e2,e3];have h':zJ tJ ([v,0,0],1)=_:=h;rw[h',bs];rfl
 ·have h:=yB (body:=tJ) (r:=[v,v,v,v,v]) (fun i=>match i with|0=>([v,0,0,0,0],1)|1=>([v,v,0,0,0],2)|2=>([v,v,v,v,0],4)|_=>([v,v,v,v,v],5)) 3 (fun i hi=>by
   match i,hi with
   |0,_=>simp[tJ,yA,xQ,rng,inR]
   |1,_=>simp[tJ,yA,xQ,rng,inR]
   |2,_=>simp[tJ,yA,xQ,rng,inR]) (by simp[tJ])
  rw[zMK (by decide+kernel),bs];have hl:xH (IntKind.wrap .i64 5)=some 5:=by decide+kernel
  simp only[hl,bs];rw[show decide ((5:Int)<0)=false from rfl,zL,show decide ((0:Int)> 0)=false from rfl,zL,show decide ((5:Int)> 9223372036854775807)=false from by decide,zL];have e2:xQ (J1 5 (0:Int)) 0 (([v]:List Int).take ((J1 5 (0:Int)).length-0))=[v,0,0,0,0]:=by simp[xQ,J1]
  have e3:((min ([v]:List Int).length ((J1 5 (0:Int)).length-0):Nat):Int)=1:=by simp
  rw[e2,e3];have h':zJ tJ ([v,0,0,0,0],1)=_:=h;rw[h',bs];rfl
 ·have h:=yB (body:=tJ) (r:=[v,v,v,v,v,v,v]) (fun i=>match i with|0=>([v,0,0,0,0,0,0],1)|1=>([v,v,0,0,0,0,0],2)|2=>([v,v,v,v,0,0,0],4)|_=>([v,v,v,v,v,v,v],7)) 3 (fun i hi=>by
   match i,hi with
   |0,_=>simp[tJ,yA,xQ,rng,inR]
   |1,_=>simp[tJ,yA,xQ,rng,inR]
   |2,_=>simp[tJ,yA,xQ,rng,inR]) (by simp[tJ])
  rw[zMK (by decide+kernel),bs];have hl:xH (IntKind.wrap .i64 7)=some 7:=by decide+kernel
  simp only[hl,bs];rw[show decide ((7:Int)<0)=false from rfl,zL,show decide ((0:Int)> 0)=false from rfl,zL,show decide ((7:Int)> 9223372036854775807)=false from by decide,zL];have e2:xQ (J1 7 (0:Int)) 0 (([v]:List Int).take ((J1 7 (0:Int)).length-0))=[v,0,0,0,0,0,0]:=by simp[xQ,J1]
  have e3:((min ([v]:List Int).length ((J1 7 (0:Int)).length-0):Nat):Int)=1:=by simp
  rw[e2,e3];have h':zJ tJ ([v,0,0,0,0,0,0],1)=_:=h;rw[h',bs];rfl
end Go.Pl

namespace Go.Pl
open Go Go.Ab Go.Wk Go.Pc
theorem IsB.b{o:Option Bool}{P:Prop}(h:IsB o P):IsB (o.bind fun r=>some r) P:=by
 rcases h with⟨h1,h2⟩|⟨h1,h2⟩
 ·exact .inl ⟨by rw[h1,bs],h2⟩
 ·exact .inr ⟨by rw[h1,bs],h2⟩
theorem zLu{p:Int}{D:Nat}{r:List Int}(hp:Prime p)(hD:D≤8):IsB (zU0 r p (D:Int)) (Row p D r):=by
 have h7:=hp.pos;unfold zU0
 by_cases h:r.length=D
 ·rw[zAb (by omega),zL]
  refine(kV r.length (fun i=>0≤at0 r i∧at0 r i≤p-1) rfl (fun i hi _=>?_) ?_).iff ⟨fun g=>⟨h,by rw[←h];exact g⟩,fun g=>by rw[h];exact g.2⟩
  ·refine tP (kM _ _ _) (by omega) ?_
   unfold zOS;rw[xV hi,zQ,xD hi,bs,zE (by omega) (by omega),bs]
  ·unfold zOS
   rw[wC,zL]
 ·rw[zAc (by omega),zQ]
  exact .inr ⟨rfl,fun g=>h g.1⟩
theorem zLv{p:Int}{D:Nat}{r:List Int}(hp:Prime p)(hD:D≤8):IsB (zUt p (D:Int) r) (Row p D r):=by
 have h7:=hp.pos;unfold zUt
 by_cases h:r.length=D
 ·rw[zAb (by omega),zL]
  refine(kV r.length (fun i=>0≤at0 r i∧at0 r i≤p-1) rfl (fun i hi _=>?_) ?_).iff ⟨fun g=>⟨h,by rw[←h];exact g⟩,fun g=>by rw[h];exact g.2⟩
  ·refine tP (zC3 _ _ _) (by omega) ?_
   unfold zOP;rw[xV hi,zQ,xD hi,bs,zE (by omega) (by omega),bs]
  ·unfold zOP
   rw[wC,zL]
 ·rw[zAc (by omega),zQ]
  exact .inr ⟨rfl,fun g=>h g.1⟩
theorem zPr{p:Int}{D:Nat}{B:Mx}(hp:Prime p)(hD:D≤8):IsB (zUu p (D:Int) B) (Mat p D B):=by
 unfold zUu
 by_cases h:B.length=D
 ·rw[zAb (by omega),zL]
  refine(kV B.length (fun i=>Row p D (B.getD i [])) rfl (fun i hi _=>?_) ?_).iff ⟨fun g=>⟨h,by rw[←h];exact fun i hi=>by rw[h];exact g i hi⟩,fun g=>by rw[h];exact g.2⟩
  ·refine tP (zLv hp hD) (by omega) ?_
   unfold zOQ;rw[xV hi,zQ,yY [] hi,bs]
  ·unfold zOQ
   rw[wC,zL]
 ·rw[zAc (by omega),zQ]
  exact .inr ⟨rfl,fun g=>h g.1⟩
theorem zIn{p:Int}{D:Nat}{B:Mx}(hp:Prime p)(hD:D≤8)(hB:B.length=D):IsB (zU1 (zU.mk p (D:Int) B)) (Mat p D B):=by
 unfold zU1;simp only
 rcases zBE p with⟨h1,_⟩|⟨_,h2⟩
 ·rw[h1,bs,K9,zL]
  rcases kM (D:Int) 0 8 with⟨h3,_⟩|⟨_,h4⟩
  ·rw[h3,bs,K9,zL,decide_eq_false (by omega),zL]
   refine(kV (body:=zLU (zU.mk p (D:Int) B)) D (fun i=>Row p D (B.getD i [])) rfl (fun i hi _=>?_) ?_).iff ⟨fun g=>⟨hB,g⟩,fun g=>g.2⟩
   ·refine tP (zLu hp hD) (by omega) ?_
    unfold zLU;simp only
    rw[hB,xV hi,zQ,yY [] (by omega),bs]
   ·unfold zLU
    simp only
    rw[hB,wC,zL]
  ·exact absurd (by omega) h4
 ·exact absurd hp h2
theorem zHB{A B:Mx}(hA:A.length≤1000)(h:∀r∈A,r.length≤1000):zUv A B=some (A==B):=
 zIN (t:=f_V) (body:=zS2 A B) rfl (fun _=>rfl) (by omega) fun u hu v _=>zPp (by have:=h u hu;omega)
theorem zIo{A B:Mx}(hA:A.length≤1000)(h:∀r∈A,r.length≤1000):zU5 A B=some (A==B):=by
 unfold zU5;rw[zIN (f:=zXb A B) (t:=f_Q) (body:=zSV A B) rfl (fun _=>rfl) (by omega) fun u hu v _=>zDX (by have:=h u hu;omega),bs]
theorem Mat.small{p:Int}{D:Nat}{A:Mx}(h:Mat p D A)(hD:D≤8):A.length≤1000∧ ∀r∈A,r.length≤1000:=by
 refine⟨by have:=h.1;omega,fun r hr=>?_⟩;obtain⟨i,hi,rfl⟩:=Ls.1 hr;have:=h.2 i (by rw[←h.1];exact hi);rw[J2,J3 hi]at this;have:=this.1;simp only[Ug]at this;omega
def zDZ(x:SPr)(m:zH)(D:Nat):Prop:=
 ∀i,i<x.zA.length→wM m.Prime D m.zF (J1 (at0 x.zA i).toNat i) (idM D)=wM m.Prime D m.zF (nw 0 (x.zS.getD i [])) (idM D)∧
  ∀j,i+1≤j→j<x.zA.length→PM m.Prime D (m.zF.getD j []) (m.zF.getD i [])=PM m.Prime D (m.zF.getD i []) (wM m.Prime D m.zF (nw 0 ((x.zC.getD i []).getD (j-(i+1)) [])) (idM D))
theorem zAu{x:SPr}{v:List Int}{i:Nat}(ho:Os x.zA)(h:Exp x.zA v i):v.length=x.zA.length∧ ∀j,j<x.zA.length→0≤at0 v j∧at0 v j≤6:=by
 have h1:=h.1.1;refine⟨h1,fun j hj=>?_⟩;have:=h.1.2 j (by omega);have:=(ho.2 j hj).pos;omega
section
variable {x:SPr}{m:zH}{D:Nat} (h:Pres x) (hm:MOk x.zA.length m D)
 include h hm
theorem zPs{i:Nat}(hi:i<x.zA.length):(x.zS.getD i []).length=x.zA.length∧ ∀j,j<x.zA.length→0≤at0 (x.zS.getD i []) j∧at0 (x.zS.getD i []) j≤6:=have _:=hm;zAu h.os (h.tl i hi).1
theorem zML{i j:Nat}(hi:i<x.zA.length)(hj:j<(x.zC.getD i []).length):((x.zC.getD i []).getD j []).length=x.zA.length∧ ∀q,q<x.zA.length→0≤at0 ((x.zC.getD i []).getD j []) q∧at0 ((x.zC.getD i []).getD j []) q≤6:=have _:=hm;zAu h.os ((h.tl i hi).2.2 j hj)
theorem zPt:IsB ((zJ (zS6 x m) 0).bind fun r=>match r with|.inl _=>some true|.inr r=>some r) (zDZ x m D):=by
 have h6:=h.os.1;have h7:=hm.p.pos;have h3:=hm.d3;have hlen:=hm.len;refine kV x.zA.length (fun i=>wM m.Prime D m.zF (J1 (at0 x.zA i).toNat i) (idM D)=wM m.Prime D m.zF (nw 0 (x.zS.getD i [])) (idM D)∧
  ∀j,i+1≤j→j<x.zA.length→PM m.Prime D (m.zF.getD j []) (m.zF.getD i [])=PM m.Prime D (m.zF.getD i []) (wM m.Prime D m.zF (nw 0 ((x.zC.getD i []).getD (j-(i+1)) [])) (idM D))) rfl (fun i hi _=>?_) ?_
 ·have hpr:=(h.os.2 i hi).pos
  have hpl:=h.pl;have hcl:=h.cl;obtain⟨p1,p2⟩:=zPs h hm hi;have t2:=(h.tl i hi).2.1;have hI:=sE (p:=m.Prime) (D:=D) h7.1;unfold zS6;rw[xV hi,zQ,hm.d,zH8 hm.p (by omega),bs];rw[uW (S:=Mat m.Prime D) (body:=zS4 x m (i:Int)) (fun B=>B) (fun B=>PM m.Prime D B (m.zF.getD i [])) (at0 x.zA i) (by omega) (fun B hB=>zCD (by omega) hB.1) (fun B q hB hq=>by
   unfold zS4;simp only
   rw[xD hi,bs,decide_eq_true hq,zQ,yY [] (by omega),bs,hm.d,kE hm.p (by omega) hB (hm.mat i hi),bs,zE (by omega) (by omega),bs,cs]) (fun B hB=>by
   unfold zS4;simp only
   rw[xD hi,bs,decide_eq_false (by omega),zL]) hI,bs,yY [] (by omega),bs,zLt hm (by omega) p1 p2,bs,←zH9]
  have hs:=(zBI (p:=m.Prime) (D:=D) (A:=m.zF) (by omega) (J1 (at0 x.zA i).toNat i) hI).small (by omega);rw[zHB hs.1 hs.2,bs]
  by_cases hq:wM m.Prime D m.zF (J1 (at0 x.zA i).toNat i) (idM D)=wM m.Prime D m.zF (nw 0 (x.zS.getD i [])) (idM D)
  ·rw[show(wM m.Prime D m.zF (J1 (at0 x.zA i).toNat i) (idM D)==wM m.Prime D m.zF (nw 0 (x.zS.getD i [])) (idM D))=true from by rw[beq_iff_eq];exact hq,K9,zL,zE (by omega) (by omega),bs,cs]
   rcases chk (body:=zS5 x m (i:Int)) x.zA.length (i+1) (by omega) (fun j=>PM m.Prime D (m.zF.getD j []) (m.zF.getD i [])=PM m.Prime D (m.zF.getD i []) (wM m.Prime D m.zF (nw 0 ((x.zC.getD i []).getD (j-(i+1)) [])) (idM D))) (fun _=>false) (fun j h1 h2 _=>by
     obtain⟨c1,c2⟩:=zML h hm (j:=j-(i+1)) hi (by omega);have hjm:=hm.mat j h2;have him:=hm.mat i hi;have hw:=zBI (p:=m.Prime) (D:=D) (A:=m.zF) (by omega) (nw 0 ((x.zC.getD i []).getD (j-(i+1)) [])) hI;have hs:=(zCD (p:=m.Prime) (B:=m.zF.getD i []) (by omega) hjm.1).small (by omega);refine tP (o:=some (PM m.Prime D (m.zF.getD j []) (m.zF.getD i [])==PM m.Prime D (m.zF.getD i []) (wM m.Prime D m.zF (nw 0 ((x.zC.getD i []).getD (j-(i+1)) [])) (idM D)))) (IsB.of_bool (by rw[beq_iff_eq])) (by omega) ?_;unfold zS5;rw[xV h2,zQ,yY (i:=j) [] (by omega),bs,yY (i:=i) [] (by omega),bs,hm.d,kE hm.p (by omega) hjm him,bs,bs,yY (i:=i) [] (by omega),bs,zE (by omega) (by omega),bs,zE (by omega) (by omega),bs,show(j:Int)-(i:Int)-1=((j-(i+1):Nat):Int)from by omega,yY [] (by omega),bs,zLt hm (by omega) c1 c2,bs,kE hm.p (by omega) him hw,bs,zHB hs.1 hs.2]) (by
     unfold zS5;rw[wC,zL])with⟨g1,g2⟩|⟨j,j1,j2,g1,g2⟩
   ·left
    rw[g1,bs,bs];exact⟨rfl,hq,g2⟩
   ·right
    rw[g1,bs];exact⟨rfl,fun g=>g2 (g.2 j j1 j2)⟩
  ·rw[show(wM m.Prime D m.zF (J1 (at0 x.zA i).toNat i) (idM D)==wM m.Prime D m.zF (nw 0 (x.zS.getD i [])) (idM D))=false from by rw[beq_eq_false_iff_ne];exact hq,Kn,zQ]
   exact .inr ⟨rfl,fun g=>hq g.1⟩
 ·unfold zS6
  rw[wC,zL]
end
def zVp(x:SPr)(m:zH):Prop:=zDY x∧ ∃D,MOk x.zA.length m D∧zDZ x m D
theorem zIp{x:SPr}{m:zH}(hl:x.zA.length≤1048576):IsB (zUw x m) (zVp x m):=by
 unfold zUw;rcases zMI hl with⟨h1,h2⟩|⟨h1,h2⟩
 ·have h6:=h2.1.os.1
  rw[h1,bs,zQ];unfold f_r;rcases zHx m.Prime with⟨p1,p2⟩|⟨p1,p2⟩
  ·rw[p1,bs,K9,zL]
   rcases zC3 m.Dim 1 3 with⟨d1,d2⟩|⟨d1,d2⟩
   ·rw[d1,bs,K9,zL]
    obtain⟨D,hD⟩:∃D:Nat,m.Dim=(D:Int):=⟨m.Dim.toNat,by omega⟩
    by_cases hlen:m.zF.length=x.zA.length
    ·rw[zAb (by omega),zL]
     rcases chk (body:=zS3 x m) x.zA.length 0 (Ke _) (fun i=>Mat m.Prime D (m.zF.getD i [])) (fun _=>false) (fun i _ hi _=>by
       refine tP (zPr p2 (D:=D) (by omega)) (by omega) ?_;unfold zS3;rw[xV hi,zQ,yY [] (by omega),bs,hD]) (by
       unfold zS3;rw[wC,zL])with⟨g1,g2⟩|⟨i,_,hi,g1,g2⟩
     ·rw[show((0:Nat):Int)=0 from rfl]at g1
      have hm:MOk x.zA.length m D:=⟨p2,hD,by omega,by omega,hlen,fun i hi=>g2 i (Ke _) hi⟩;rw[g1,bs];refine(zPt h2.1 hm).b.iff ⟨fun k2=>⟨h2,D,hm,k2⟩,fun⟨_,D',hm',hr⟩=>?_⟩;have:D'=D:=by have:=hm'.d;omega
      rw[←this];exact hr
     ·rw[show((0:Nat):Int)=0 from rfl]at g1
      rw[g1,bs];refine .inr ⟨rfl,fun⟨_,D',hm',_⟩=>g2 ?_⟩;have:D'=D:=by have:=hm'.d;omega
      rw[←this];exact hm'.mat i hi
    ·rw[zAc (by omega),zQ]
     exact .inr ⟨rfl,fun⟨_,D',hm',_⟩=>hlen hm'.len⟩
   ·rw[d1,bs,Kn,zQ]
    exact .inr ⟨rfl,fun⟨_,D',hm',_⟩=>d2 (by have:=hm'.d;have:=hm'.d1;have:=hm'.d3;omega)⟩
  ·rw[p1,bs,Kn,zQ]
   exact .inr ⟨rfl,fun⟨_,D',hm',_⟩=>p2 hm'.p⟩
 ·rw[h1,bs,zL]
  exact .inr ⟨rfl,fun g=>h2 g.1⟩
end Go.Pl

namespace Go.Pl
open Go Go.Ab Go.Wk Go.Pc
abbrev Rl:=List Nat×List Nat
def r1(x:SPr)(i:Nat):Rl:=(J1 (at0 x.zA i).toNat i,nw 0 (x.zS.getD i []))
def r2(x:SPr)(i j:Nat):Rl:=([i+j+1,i],i::nw 0 ((x.zC.getD i []).getD j []))
def R2(x:SPr)(i:Nat):List Rl:=(Jw (x.zC.getD i []).length).map (r2 x i)
def jC(x:SPr):List Rl:=(Jw x.zA.length).map (r1 x)++(Jw x.zA.length).flatMap (R2 x)
abbrev enR(q:Rl):List Int×List Int:=(enW q.1,enW q.2)
section
variable {x:SPr} (h:Pres x)
 include h
theorem zWx{i:Nat}(hi:i<x.zA.length):(R2 x i).length≤9:=by
 have:=(h.tl i hi).2.1;have:=h.os.1;simp only[R2,Jf,Ll];omega
theorem zMM:∀i,i≤x.zA.length→((Jw i).flatMap (R2 x)).length≤9*i
 |0,_=>by simp
 |i+1,hi=>by
  have:=zMM i (by omega);have:=zWx h (i:=i) (by omega);rw[Hy,Hd,J5];simp only[Ln,Qz,J9];omega
theorem zTQ{k i:Nat}:enW (J1 k i)=J1 k ((i:Int)+1):=by have _:=h;simp[enW]
theorem zEa:f_x x=some ((jC x).map enR):=by
 have h6:=h.os.1;have hpl:=h.pl;have hcl:=h.cl;unfold f_x;have l1:=yB (body:=zSQ x) (r:=((Jw x.zA.length).map (r1 x)).map enR) (fun i=>(((Jw i).map (r1 x)).map enR,(i:Int))) x.zA.length (fun i hi=>by
  obtain⟨p1,p2⟩:=zAu h.os (h.tl i hi).1;unfold zSQ;simp only
  rw[xV hi,zQ,xD hi,bs,zE (by omega) (by omega),bs,zCF (h.os.2 i hi),bs,yY [] (by omega),bs,kW (by omega) (by rw[p1];exact p2),bs,xK (by simp only[Jf,Ll,J7,K0];omega),bs,bs,cs,Hy];simp only[Lh,Jt,Hk,r1,enR,zTQ h,cs]) (by
  unfold zSQ;simp only
  rw[wC,zL])
 rw[show((0:Nat):Int)=0 from rfl]at l1;simp only[Ja4,Hk]at l1;rw[l1,bs];have l3:=yB (body:=zSS x) (r:=(jC x).map enR) (fun i=>(((Jw x.zA.length).map (r1 x)++(Jw i).flatMap (R2 x)).map enR,(i:Int))) x.zA.length (fun i hi=>by
  have t2:=(h.tl i hi).2.1;have hfm:=zMM h i (by omega);unfold zSS;simp only
  rw[xV hi,zQ,yY [] (by omega),bs];have l2:=yB (body:=zSR (((Jw x.zA.length).map (r1 x)++(Jw i).flatMap (R2 x)).map enR,(i:Int)) (x.zC.getD i [])) (r:=((Jw x.zA.length).map (r1 x)++(Jw (i+1)).flatMap (R2 x)).map enR)
   (fun j=>(((Jw x.zA.length).map (r1 x)++(Jw i).flatMap (R2 x)++(Jw j).map (r2 x i)).map enR,(j:Int))) (x.zC.getD i []).length (fun j hj=>by
    obtain⟨p1,p2⟩:=zAu h.os ((h.tl i hi).2.2 j hj);have hnl:=zF6 0 ((x.zC.getD i []).getD j []) (by rw[p1];exact fun i hi=>(p2 i hi).2);unfold zSR;simp only
    rw[xV hj,zQ,yY [] hj,bs,zE (by omega) (by omega),bs,zE (by omega) (by omega),bs,zE (by omega) (by omega),bs,kW (by omega) (by rw[p1];exact p2),bs,xK (by simp only[Jf,J7,K0];omega),bs,xK (by simp only[Jf,J5,Ll,J7,K0];omega),bs,zE (by omega) (by omega),bs,cs,Hy];have e1:(i:Int)+(j:Int)+2=((i+j+1:Nat):Int)+1:=by omega
    simp only[Lh,Jt,Hk,r2,enR,enW,Ja,Lv,e1];rfl) (by
    unfold zSR;simp only
    rw[wC,zL,Hy,Hd];simp only[Ln,Qz,J9,Ja,R2])
  rw[show((0:Nat):Int)=0 from rfl]at l2;simp only[Ja4,Hk,J9]at l2;rw[l2,bs,zE (by omega) (by omega),bs,cs]) (by
  unfold zSS;simp only
  rw[wC,zL];rfl)
 rw[show((0:Nat):Int)=0 from rfl]at l3;simp only[Ja4,Qz,J9]at l3;rw[l3,bs]
theorem zPu{q:Rl}(hq:q∈jC x):((∀w∈q.1,w<x.zA.length)∧q.1.length≤1000)∧(∀w∈q.2,w<x.zA.length)∧q.2.length≤1000:=by
 have h6:=h.os.1;simp only[jC,Jh,Jo,Kk,H5,R2]at hq;rcases hq with⟨i,hi,rfl⟩|⟨i,hi,j,hj,rfl⟩
 ·obtain⟨p1,p2⟩:=zAu h.os (h.tl i hi).1
  have hnl:=zF6 0 (x.zS.getD i []) (by rw[p1];exact fun i hi=>(p2 i hi).2);have hpr:=(h.os.2 i hi).pos;refine⟨⟨fun w hw=>?_,?_⟩,fun w hw=>zLs 0 _ (by omega) w hw,by simp only[r1];omega⟩
  ·have:=Js hw;omega
  ·simp only[r1,Ji];omega
 ·obtain⟨p1,p2⟩:=zAu h.os ((h.tl i hi).2.2 j hj)
  have t2:=(h.tl i hi).2.1;have hnl:=zF6 0 ((x.zC.getD i []).getD j []) (by rw[p1];exact fun i hi=>(p2 i hi).2);refine⟨⟨fun w hw=>?_,by simp[r2]⟩,fun w hw=>?_,by simp only[r2,J7];omega⟩
  ·simp only[r2,Jc,Jb7,or_false]at hw;omega
  ·simp only[r2,Jc]at hw
   rcases hw with rfl|hw
   ·exact hi
   ·exact zLs 0 _ (by omega) w hw
variable {m:zH}{D:Nat} (hm:MOk x.zA.length m D)
 include hm
theorem zLw:(∀q∈jC x,wM m.Prime D m.zF q.1 (idM D)=wM m.Prime D m.zF q.2 (idM D))↔zDZ x m D:=by
 have h7:=hm.p.pos;have hI:=sE (p:=m.Prime) (D:=D) h7.1;have key:∀i j,i<x.zA.length→j<x.zA.length→ ∀ws,(wM m.Prime D m.zF [j,i] (idM D)=wM m.Prime D m.zF (i::ws) (idM D)↔PM m.Prime D (m.zF.getD j []) (m.zF.getD i [])=PM m.Prime D (m.zF.getD i []) (wM m.Prime D m.zF ws (idM D))):=fun i j hi hj ws=>by
  have hi':=hm.mat i hi;have hj':=hm.mat j hj;have e1:wM m.Prime D m.zF [j,i] (idM D)=PM m.Prime D (m.zF.getD j []) (m.zF.getD i []):=by
   show PM _ _ (PM _ _ (idM D) _) _=_;rw[zBH hj']
  have e2:wM m.Prime D m.zF (i::ws) (idM D)=PM m.Prime D (m.zF.getD i []) (wM m.Prime D m.zF ws (idM D)):=by
   show wM _ _ _ ws (PM _ _ (idM D) _)=_;rw[zBH hi',←zHA (by omega) hi'.1 ws hI,zCE hi']
  rw[e1,e2]
 constructor
 ·intro g i hi
  have t2:=(h.tl i hi).2.1;refine⟨g (r1 x i) (by simp only[jC,Jh,Jo,Kk];exact .inl ⟨i,hi,rfl⟩),fun j h1 h2=>?_⟩;have:=g (r2 x i (j-(i+1))) (by
   simp only[jC,Jh,H5,Kk,R2,Jo];exact .inr ⟨i,hi,j-(i+1),by omega,rfl⟩)
  simp only[r2]at this;rw[show i+(j-(i+1))+1=j from by omega]at this;exact(key i j hi h2 _).1 this
 ·intro g q hq
  simp only[jC,Jh,Jo,Kk,H5,R2]at hq;rcases hq with⟨i,hi,rfl⟩|⟨i,hi,j,hj,rfl⟩
  ·exact(g i hi).1
  ·have t2:=(h.tl i hi).2.1
   have:=(g i hi).2 (i+j+1) (by omega) (by omega);rw[show i+j+1-(i+1)=j from by omega]at this;exact(key i (i+j+1) hi (by omega) _).2 this
theorem zPv:IsB ((zJ (zSX m ((jC x).map enR)) 0).bind fun r=>match r with|.inl _=>some true|.inr r=>some r) (zDZ x m D):=by
 have h6:=h.os.1;have h7:=hm.p.pos;have h3:=hm.d3;have hI:=sE (p:=m.Prime) (D:=D) h7.1;have hfm:=zMM h x.zA.length (Jp _);have hrl:(jC x).length≤1000:=by simp only[jC,J5,Jf,Ll];omega
 refine(kV (jC x).length (fun k=>wM m.Prime D m.zF ((jC x).getD k ([],[])).1 (idM D)=wM m.Prime D m.zF ((jC x).getD k ([],[])).2 (idM D)) rfl (fun k hk _=>?_) ?_).iff ⟨fun g=>(zLw h hm).1 fun q hq=>?_,fun g k hk=>(zLw h hm).2 g _ ?_⟩
 ·have hmem:(jC x).getD k ([],[])∈jC x:=by
   rw[J2,J3 hk];exact Kd hk
  obtain⟨⟨g1,g2⟩,g3,g4⟩:=zPu h hmem;have hs:=(zBI (p:=m.Prime) (D:=D) (A:=m.zF) (by omega) ((jC x).getD k ([],[])).1 hI).small (by omega);refine tP (o:=some (wM m.Prime D m.zF ((jC x).getD k ([],[])).1 (idM D)==wM m.Prime D m.zF ((jC x).getD k ([],[])).2 (idM D))) (IsB.of_bool (by rw[beq_iff_eq])) (by omega) ?_;unfold zSX;rw[Jf,xV hk,zQ,uR,K1,J3 hk];rw[J2,J3 hk]at g1 g2 g3 g4 hs ⊢
  simp only[Hx,Ug]at g1 g2 g3 g4 hs ⊢
  rw[bs,zAU hm h6 g1 (Kv g2 (by omega)),bs,zAU hm h6 g3 (Kv g4 (by omega)),bs];simp only
  rw[zIo hs.1 hs.2]
 ·unfold zSX
  rw[Jf,wC,zL]
 ·obtain⟨k,hk,rfl⟩:=Ls.1 hq
  have:=g k hk;rw[J2,J3 hk]at this;exact this
 ·rw[J2,J3 hk];exact Kd hk
end
theorem zIq{x:SPr}{m:zH}(hl:x.zA.length≤1048576)(_hal:m.zF.length≤1048576):IsB (f_E x m) (zVp x m):=by
 unfold f_E;rcases zEG hl with⟨h1,h2⟩|⟨h1,h2⟩
 ·have h6:=h2.1.os.1
  rw[h1,bs,K9,zL];rcases zBE m.Prime with⟨p1,p2⟩|⟨p1,p2⟩
  ·rw[p1,bs,K9,zL]
   rcases kM m.Dim 1 3 with⟨d1,d2⟩|⟨d1,d2⟩
   ·rw[d1,bs,K9,zL]
    obtain⟨D,hD⟩:∃D:Nat,m.Dim=(D:Int):=⟨m.Dim.toNat,by omega⟩
    by_cases hlen:m.zF.length=x.zA.length
    ·rw[zAb (by omega),zL]
     rcases chk (body:=zSW m) m.zF.length 0 (Ke _) (fun i=>Mat m.Prime D (m.zF.getD i [])) (fun _=>false) (fun i _ hi _=>by
       unfold zSW;rw[xV hi,zQ,yY [] hi,bs,hD]
       by_cases hr:(m.zF.getD i []).length=D
       ·rw[zAb (by omega),zL]
        refine tP (zIn p2 (D:=D) (by omega) hr) (by omega) ?_;unfold zPL;rw[yY [] hi,bs,bs,hD]
       ·rw[zAc (by omega),zQ]
        exact .inr ⟨rfl,fun g=>hr g.1⟩) (by
       unfold zSW;rw[wC,zL])with⟨g1,g2⟩|⟨i,_,hi,g1,g2⟩
     ·rw[show((0:Nat):Int)=0 from rfl]at g1
      have hm:MOk x.zA.length m D:=⟨p2,hD,by omega,by omega,hlen,fun i hi=>g2 i (Ke _) (by omega)⟩;rw[g1,bs,zEa h2.1];simp only
      rw[bs];refine(zPv h2.1 hm).iff ⟨fun k2=>⟨h2,D,hm,k2⟩,fun⟨_,D',hm',hr⟩=>?_⟩;have:D'=D:=by have:=hm'.d;omega
      rw[←this];exact hr
     ·rw[show((0:Nat):Int)=0 from rfl]at g1
      rw[g1,bs];refine .inr ⟨rfl,fun⟨_,D',hm',_⟩=>g2 ?_⟩;have:D'=D:=by have:=hm'.d;omega
      rw[←this];exact hm'.mat i (by omega)
    ·rw[zAc (by omega),zQ]
     exact .inr ⟨rfl,fun⟨_,D',hm',_⟩=>hlen hm'.len⟩
   ·rw[d1,bs,Kn,zQ]
    exact .inr ⟨rfl,fun⟨_,D',hm',_⟩=>d2 (by have:=hm'.d;have:=hm'.d1;have:=hm'.d3;omega)⟩
  ·rw[p1,bs,Kn,zQ]
   exact .inr ⟨rfl,fun⟨_,D',hm',_⟩=>p2 hm'.p⟩
 ·rw[h1,bs,Kn,zQ]
  exact .inr ⟨rfl,fun g=>h2 g.1⟩
end Go.Pl

namespace Go.Pl
open Go Go.Ab Go.Wk Go.Pc
theorem zIX{xs:List (List Int)}{i:Nat}(h:i<xs.length):(xs.take (i+1)).flatten=(xs.take i).flatten++xs.getD i []:=by
 rw[Ka h,Qt,J2,J3 h];simp
theorem zOu{xs:List (List Int)}(i:Nat):(xs.take i).flatten.length≤xs.flatten.length:=by
 have:xs.flatten=(xs.take i).flatten++(xs.drop i).flatten:=by rw[←Qt,Jbk]
 rw[this,J5];omega
theorem zPw{k:Nat}(hk:k≤1000000):zSY (k:Int)=some []:=by
 unfold zSY;rw[decide_eq_false (by omega),zL,zE (by decide) (by decide),bs,zE (by omega) (by omega),bs]
 by_cases h:(k:Int)-(0-0)> 0
 ·rw[decide_eq_true h,zQ]
  have e:uC ([]:List Int) ((k:Int)-(0-0)) 0=some (J1 k 0):=by
   unfold uC;rw[if_pos (by simp;omega)];simp
  rw[e,bs];rfl
 ·rw[decide_eq_false h,zL]
theorem zGa{xs:List (List Int)}(hx:xs.length≤1000)(hf:xs.flatten.length≤1000000):f_y xs=some xs.flatten:=by
 unfold f_y;have l1:=yB (body:=zSZ xs) (r:=((xs.flatten.length:Nat):Int)) (fun i=>((((xs.take i).flatten.length:Nat):Int),(i:Int))) xs.length (fun i hi=>by
  have h1:=zIX hi;have h2:=zOu (xs:=xs) (i+1);have h3:=congrArg Jdh h1;rw[J5]at h3;unfold zSZ;simp only
  rw[xV hi,zQ,yY [] hi,bs,zE (by omega) (by omega),bs,decide_eq_false (by omega),zL,zE (by omega) (by omega),bs,cs,h3]
  congr 3) (by
  unfold zSZ;simp only
  rw[wC,zL,Lx])
 rw[show((0:Nat):Int)=0 from rfl]at l1;simp only[K8,Ho,K0]at l1;rw[show((0:Nat):Int)=0 from rfl]at l1;rw[l1,bs,zPw hf,bs];have l2:=yB (body:=zTa xs) (r:=xs.flatten) (fun i=>((xs.take i).flatten,(i:Int))) xs.length (fun i hi=>by
  have h1:=zIX hi;have h2:=zOu (xs:=xs) (i+1);have h3:=congrArg Jdh h1;rw[J5]at h3;unfold zTa;simp only
  rw[xV hi,zQ,yY [] hi,bs,xK (by omega),bs,zE (by omega) (by omega),bs,cs,h1]) (by
  unfold zTa;simp only
  rw[wC,zL,Lx])
 rw[show((0:Nat):Int)=0 from rfl]at l2;simp only[K8,Ho]at l2;rw[l2,bs]
end Go.Pl

namespace Go.Pl
open Go Go.Ab Go.Wk Go.Pc
section
variable {p:Int}
def sK(p:Int)(D:Nat)(r:List Int)(k:Int)(s:List Int):List Int:=mkv D fun j=>(at0 r j+k*at0 s j)%p
def zIr(p:Int)(D i:Nat)(r:List Int)(k:Int)(s:List Int):List Int:=mkv D fun j=>if j<i then(at0 r j+k*at0 s j)%p else at0 r j
theorem zIY{D:Nat}{r s:List Int}{k:Int}(hr:r.length=D):zIr p D 0 r k s=r:=by
 conv=>rhs;rw[uE hr]
 exact zY fun j _=>by rw[if_neg (by omega)]
theorem zIZ{D:Nat}{r s:List Int}{k:Int}:zIr p D D r k s=sK p D r k s:=zY fun j hj=>by rw[if_pos hj]
theorem zLx{D i:Nat}{r s:List Int}{k a:Int}(ha:a=(at0 r i+k*at0 s i)%p):(zIr p D i r k s).set i a=zIr p D (i+1) r k s:=by
 simp only[zIr];rw[zAo];refine zY fun j _=>?_
 by_cases h:j=i
 ·subst h;rw[if_pos rfl,if_pos (by omega),ha]
 ·rw[if_neg h]
  by_cases h2:j<i
  ·rw[if_pos h2,if_pos (by omega)]
  ·rw[if_neg h2,if_neg (by omega)]
theorem zOv{D i:Nat}{r s:List Int}{k:Int}(hi:i<D):at0 (zIr p D i r k s) i=at0 r i:=by
 rw[zIr,yH hi,if_neg (by omega)]
theorem zEH{D i:Nat}{r s:List Int}{k:Int}:(zIr p D i r k s).length=D:=yD _ _
end
section
variable {p:Int} (hp:Prime p)
 include hp
theorem zLy{a:Int}(_h0:-1000≤a)(_h1:a≤1000):zKk a p=some (a%p):=by
 have h7:=hp.pos;have e1:=Jbm a (show 0<p by omega);have e2:=Jbn a (show 0<p by omega);have e3:(Jc9 a p+p)%p=a%p:=by
  rw[Um];have:=Jb1 a p
  conv=>rhs;rw[←this]
  rw[Hr]
 unfold zKk uL;rw[if_neg (by omega),bs,zE (by omega) (by omega),bs,if_neg (by omega),bs,Li (by omega),e3]
theorem zLz{a:Int}(_h0:-1000≤a)(_h1:a≤1000):zTj a p=some (a%p):=by
 have h7:=hp.pos;have e1:=Jbm a (show 0<p by omega);have e2:=Jbn a (show 0<p by omega);have e3:(Jc9 a p+p)%p=a%p:=by
  rw[Um];have:=Jb1 a p
  conv=>rhs;rw[←this]
  rw[Hr]
 unfold zTj uL;rw[if_neg (by omega),bs]
 by_cases h:Jc9 a p<0
 ·rw[decide_eq_true h,zQ,zE (by omega) (by omega),bs,←e3,Kh (by omega) (by omega)]
 ·rw[decide_eq_false h,zL,←e3,Um,Kh (by omega) (by omega)]
theorem zCG{D:Nat}{r s:List Int}{k:Int}:Row p D (sK p D r k s):=by
 have h7:=hp.pos;refine⟨yD _ _,fun i hi=>?_⟩;have e:at0 (sK p D r k s) i=(at0 r i+k*at0 s i)%p:=yH hi;have e1:=La (at0 r i+k*at0 s i) (show p≠0 by omega);have e2:=Kw (at0 r i+k*at0 s i) (show 0<p by omega);rw[e];omega
theorem zBJ{k b:Int}(hk:-7≤k∧k≤7)(hb:0≤b∧b≤p-1):-49≤k*b∧k*b≤49:=by
 have h7:=hp.pos;rcases Int.le_total 0 k with h|h
 ·have h1:=Qi h hb.1
  have h2:=Lt hk.2 (show b≤7 by omega) hb.1 (by omega);omega
 ·have h1:=Qi (show 0≤ -k by omega) hb.1
  have h2:=Lt (show -k≤7 by omega) (show b≤7 by omega) hb.1 (by omega);rw[Int.neg_mul]at h1 h2;omega
theorem zJa{D:Nat}{r s:List Int}{k:Int}(hr:Row p D r)(hs:Row p D s)(hk:-7≤k∧k≤7)(hD:D≤1000000):f_v r s k p=some (sK p D r k s):=by
 have h7:=hp.pos;have:=yB (body:=zLV r s k p) (r:=sK p D r k s) (fun i=>(zIr p D i r k s,(i:Int))) D (fun i hi=>by
  have a1:=hr.2 i hi;have a2:=hs.2 i hi;have a3:=zBJ hp hk a2;unfold zLV;simp only
  rw[hr.1,xV hi,zQ,xD (by rw[zEH];exact hi),bs,xD (by rw[hs.1];exact hi),bs,zE (by omega) (by omega),bs,zOv hi,zE (by omega) (by omega),bs,zLy hp (by omega) (by omega),bs,bs,zE (by omega) (by omega),bs,cs,Jg,zLx rfl]) (by
  unfold zLV;simp only
  rw[hr.1,wC,zL,zIZ])
 rw[show((0:Nat):Int)=0 from rfl,zIY hr.1]at this;unfold f_v;rw[this,bs]
theorem kP{D:Nat}{r s:List Int}{k:Int}(hr:Row p D r)(hs:Row p D s)(hk:-7≤k∧k≤7)(hD:D≤1000000):f_A p r k s=some (sK p D r k s):=by
 have h7:=hp.pos;have:=yB (body:=zTk p k s) (r:=sK p D r k s) (fun i=>(zIr p D i r k s,(i:Int))) D (fun i hi=>by
  have a1:=hr.2 i hi;have a2:=hs.2 i hi;have a3:=zBJ hp hk a2;unfold zTk;simp only
  rw[zEH,xV hi,zQ,hs.1,xV hi,zQ,xD (by rw[zEH];exact hi),bs,xD (by rw[hs.1];exact hi),bs,zE (by omega) (by omega),bs,zOv hi,zE (by omega) (by omega),bs,zLz hp (by omega) (by omega),bs,bs,zE (by omega) (by omega),bs,cs,Jg,zLx rfl]) (by
  unfold zTk;simp only
  rw[zEH,wC,zL,zIZ])
 rw[show((0:Nat):Int)=0 from rfl,zIY hr.1]at this;unfold f_A;rw[jB (by rw[hr.1];omega),bs,this,bs]
end
theorem zMN{p:Int}{D:Nat}{r s:List Int}:sK p D r (p-1) s=sK p D r (-1) s:=zY fun j _=>by
 rw[show at0 r j+(p-1)*at0 s j=at0 r j+ -1*at0 s j+p*at0 s j from by rw[Int.sub_mul];omega,Hr]
end Go.Pl

namespace Go.Pl
open Go Go.Ab Go.Wk Go.Pc
def VOk(n:Nat)(p:Int)(D:Nat)(vals:Mx):Prop:=vals.length=n∧ ∀i,i<n→Row p D (vals.getD i [])
abbrev z0(D:Nat):List Int:=J1 D 0
theorem zRx{p:Int}{D:Nat}(hp:0<p):Row p D (z0 D):=by
 refine⟨by simp,fun i hi=>?_⟩;have:at0 (z0 D) i=0:=by simp[z0,at0,J2,hi]
 rw[this];omega
theorem vH{p:Int}{D:Nat}{r:List Int}{B:Mx}(hp:0<p):Row p D (wD p D r B):=by
 refine⟨yD _ _,fun i hi=>?_⟩;have e1:=La (S D (fun l=>at0 r l*ent B l i)) (show p≠0 by omega);have e2:=Kw (S D (fun l=>at0 r l*ent B l i)) hp;rw[wD,yH hi];omega
end Go.Pl

namespace Go.Pl
open Go Go.Ab Go.Wk Go.Pc
theorem zL0{a b:Int}(h:a=b):(a==b)=true:=by simp[h]
theorem zL1{a b:Int}(h:a≠b):(a==b)=false:=by simp[h]
end Go.Pl

namespace Go.Pl
open Go Go.Ab Go.Wk Go.Pc
theorem IsB.both{o o':Option Bool}{P:Prop}(h:IsB o P)(h':IsB o' P):(o=some true∧o'=some true∧P)∨(o=some false∧o'=some false∧ ¬P):=by
 rcases h with⟨h1,h2⟩|⟨h1,h2⟩<;>rcases h' with⟨h3,h4⟩|⟨h3,h4⟩
 ·exact .inl ⟨h1,h3,h2⟩
 ·exact absurd h2 h4
 ·exact absurd h4 h2
 ·exact .inr ⟨h1,h3,h2⟩
end Go.Pl

namespace Go.Pl
open Go Go.Ab Go.Wk Go.Pc
def Sp(p:Int)(n:Nat)(R:Mx)(v:List Int):Prop:=∃c:Nat→Int,∀j,j<n→(S R.length fun i=>c i*ent R i j)%p=at0 v j%p
section
variable {p:Int}{n:Nat}{R R':Mx}{u v w:List Int}
theorem qH{i:Nat}(hi:i<R.length):Sp p n R (R.getD i []):=by
 refine⟨fun l=>if l=i then 1 else 0,fun j _=>?_⟩;rw[zAd (k:=i) hi (fun l _ hl=>by simp[hl])];simp
theorem zAV{k:Int}(hv:Sp p n R v)(hw:Sp p n R w)(h:∀j,j<n→at0 u j%p=(at0 v j+k*at0 w j)%p):Sp p n R u:=by
 obtain⟨c,hc⟩:=hv;obtain⟨d,hd⟩:=hw;refine⟨fun i=>c i+k*d i,fun j hj=>?_⟩;have e:(S R.length fun i=>(c i+k*d i)*ent R i j)=(S R.length fun i=>c i*ent R i j)+k*(S R.length fun i=>d i*ent R i j):=by
  rw[←zCC,←zCB];exact xE fun i _=>by rw[Qj,He]
 rw[e,h j hj,Ko,hc j hj,Jv,hd j hj,←Jv,←Ko]
theorem zEI(h:∀j,j<n→at0 u j%p=0):Sp p n R u:=by
 refine⟨fun _=>0,fun j hj=>?_⟩;rw[h j hj,xE (g:=fun _=>0) (fun i _=>by simp),qG];simp
theorem kQ(h:∀i,i<R.length→Sp p n R' (R.getD i []))(hv:Sp p n R v):Sp p n R' v:=by
 obtain⟨c,hc⟩:=hv;have key:∀m,m≤R.length→ ∃d:Nat→Int,∀j,j<n→(S R'.length fun i=>d i*ent R' i j)%p=(S m fun i=>c i*ent R i j)%p:=by
  intro m
  induction m with
  |zero=>intro _;exact⟨fun _=>0,fun j _=>by rw[xE (g:=fun _=>0) (fun i _=>by simp),qG];rfl⟩
  |succ m ih=>
   intro hm;obtain⟨d,hd⟩:=ih (by omega);obtain⟨e,he⟩:=h m (by omega);refine⟨fun i=>d i+c m*e i,fun j hj=>?_⟩;have e1:(S R'.length fun i=>(d i+c m*e i)*ent R' i j)=(S R'.length fun i=>d i*ent R' i j)+c m*(S R'.length fun i=>e i*ent R' i j):=by
    rw[←zCC,←zCB];exact xE fun i _=>by rw[Qj,He]
   rw[e1,Ko,hd j hj,Jv,he j hj,←Jv,←Ko];rfl
 obtain⟨d,hd⟩:=key R.length (Jp _);exact⟨d,fun j hj=>by rw[hd j hj,hc j hj]⟩
end
def jD(p:Int)(n:Nat)(R R':Mx):Prop:=(∀i,i<R.length→Sp p n R' (R.getD i []))∧ ∀i,i<R'.length→Sp p n R (R'.getD i [])
theorem jD.refl{p:Int}{n:Nat}{R:Mx}:jD p n R R:=⟨fun _ h=>qH h,fun _ h=>qH h⟩
theorem jD.symm{p:Int}{n:Nat}{R R':Mx}(h:jD p n R R'):jD p n R' R:=⟨h.2,h.1⟩
theorem jD.trans{p:Int}{n:Nat}{R R' R2:Mx}(h:jD p n R R')(h':jD p n R' R2):jD p n R R2:=⟨fun i hi=>kQ h'.1 (h.1 i hi),fun i hi=>kQ h.2 (h'.2 i hi)⟩
theorem jD.iff{p:Int}{n:Nat}{R R':Mx}{v:List Int}(h:jD p n R R'):Sp p n R v↔Sp p n R' v:=⟨fun g=>kQ h.1 g,fun g=>kQ h.2 g⟩
structure Red (p:Int) (n:Nat) (R:Mx) (pv:Nat→Nat):Prop where
 row:∀i,i<R.length→Row p n (R.getD i [])
 lt:∀i,i<R.length→pv i<n
 one:∀i,i<R.length→ent R i (pv i)=1
 low:∀i,i<R.length→ ∀j,j<pv i→ent R i j=0
 off:∀i k,i<R.length→k<R.length→k≠i→ent R k (pv i)=0
 mono:∀i j,i<j→j<R.length→pv i<pv j
section
variable {p:Int} (hp:1<p) {n:Nat}{R R':Mx}{pv pv':Nat→Nat}{v:List Int}
theorem Red.coef(h:Red p n R pv){c:Nat→Int}(hc:∀j,j<n→(S R.length fun i=>c i*ent R i j)%p=at0 v j%p){k:Nat}(hk:k<R.length):c k%p=at0 v (pv k)%p:=by
 rw[←hc (pv k) (h.lt k hk),zAd (k:=k) hk (fun i hi hne=>by rw[h.off k i hk hi hne];simp),h.one k hk];simp
theorem Red.expand(h:Red p n R pv)(hv:Sp p n R v):∀j,j<n→at0 v j%p=(S R.length fun i=>at0 v (pv i)*ent R i j)%p:=by
 obtain⟨c,hc⟩:=hv;intro j hj;rw[←hc j hj];exact kO fun i hi=>by rw[Jv,h.coef hc hi,←Jv]
theorem Red.lead(h:Red p n R pv)(hv:Sp p n R v)(hne:∃j,j<n∧at0 v j%p≠0):∃i,i<R.length∧(∀j,j<pv i→at0 v j%p=0)∧at0 v (pv i)%p≠0:=by
 have hx:=h.expand hv;have h1:∃i,i<R.length∧at0 v (pv i)%p≠0:=by
  refine Classical.byContradiction fun hn=>?_
  obtain⟨j,hj,hj2⟩:=hne;refine hj2 ?_;rw[hx j hj,kO (g:=fun _=>0) (fun i hi=>by
   have:at0 v (pv i)%p=0:=Classical.byContradiction fun h0=>hn ⟨i,hi,h0⟩
   rw[Jv,this];simp),qG];rfl
 obtain⟨i,⟨hi,hi2⟩,hmin⟩:=zBj h1;refine⟨i,hi,fun j hj=>?_,hi2⟩;have hjn:j<n:=Nat.lt_trans hj (h.lt i hi);rw[hx j hjn,kO (g:=fun _=>0) (fun k hk=>by
  rcases Jk k i with hki|hki
  ·have:at0 v (pv k)%p=0:=Classical.byContradiction fun h0=>hmin k hki ⟨hk,h0⟩
   rw[Jv,this];simp
  ·have h2:pv i≤pv k:=by
    rcases Jk i k with h3|h3
    ·exact Jcv (h.mono i k h3 hk)
    ·rw[show i=k from by omega];exact Jp _
   rw[h.low k hk j (by omega)];simp),qG];rfl
 include hp
theorem Red.row_lead(h:Red p n R pv){i:Nat}(hi:i<R.length):(∃j,j<n∧at0 (R.getD i []) j%p≠0)∧(∀j,j<pv i→at0 (R.getD i []) j%p=0)∧at0 (R.getD i []) (pv i)%p≠0:=by
 have h1:at0 (R.getD i []) (pv i)%p≠0:=by
  have:=h.one i hi;simp only[ent]at this;rw[this,Kh (by omega) hp];omega
 refine⟨⟨pv i,h.lt i hi,h1⟩,fun j hj=>?_,h1⟩;have:=h.low i hi j hj;simp only[ent]at this;rw[this];rfl
theorem Red.piv_in(h:Red p n R pv)(h':Red p n R' pv')(hs:∀i,i<R.length→Sp p n R' (R.getD i [])){i:Nat}(hi:i<R.length):∃k,k<R'.length∧pv' k=pv i:=by
 obtain⟨g1,g2,g3⟩:=h.row_lead hp hi;obtain⟨k,hk,g4,g5⟩:=h'.lead (hs i hi) g1;refine⟨k,hk,?_⟩;rcases Ui (pv' k) (pv i)with h1|h1|h1
 ·exact absurd (g2 _ h1) g5
 ·exact h1
 ·exact absurd (g4 _ h1) g3
theorem Red.piv_eq(h:Red p n R pv)(h':Red p n R' pv')(hs:jD p n R R'):∀i,(i<R.length↔i<R'.length)∧(i<R.length→pv i=pv' i):=by
 intro i
 induction i using Nat.strongRecOn with
 |_ i ih=>
  have a:i<R.length→i<R'.length∧pv' i≤pv i:=fun hi=>by
   obtain⟨k,hk,e⟩:=h.piv_in hp h' hs.1 hi;have hki:i≤k:=by
    refine Classical.byContradiction fun hn=>?_
    have h1:=(ih k (by omega)).2 (by omega);have h2:=h.mono k i (by omega) hi;omega
   refine⟨by omega,?_⟩;rcases Jk i k with h3|h3
   ·have:=h'.mono i k h3 hk;omega
   ·have hik:i=k:=by omega
    subst hik;omega
  have b:i<R'.length→i<R.length∧pv i≤pv' i:=fun hi=>by
   obtain⟨k,hk,e⟩:=h'.piv_in hp h hs.2 hi;have hki:i≤k:=by
    refine Classical.byContradiction fun hn=>?_
    have h1:=(ih k (by omega)).2 hk;have h2:=h'.mono k i (by omega) hi;omega
   refine⟨by omega,?_⟩;rcases Jk i k with h3|h3
   ·have:=h.mono i k h3 hk;omega
   ·have hik:i=k:=by omega
    subst hik;omega
  exact⟨⟨fun hi=>(a hi).1,fun hi=>(b hi).1⟩,fun hi=>by have:=(a hi).2;have:=(b (a hi).1).2;omega⟩
theorem Red.unique(h:Red p n R pv)(h':Red p n R' pv')(hs:jD p n R R'):R=R':=by
 have hpe:=h.piv_eq hp h' hs;have hl:R.length=R'.length:=by
  rcases Ui R.length R'.length with g|g|g
  ·have:=(hpe R.length).1.2 g;omega
  ·exact g
  ·have:=(hpe R'.length).1.1 g;omega
 refine zH5 (D:=R.length) rfl hl.symm fun i hi=>?_
 have hi':i<R'.length:=by omega
 have r1:=h.row i hi;have r2:=h'.row i hi';rw[uE r1.1,uE r2.1];refine zY fun j hj=>?_
 have hx:=h'.expand (hs.1 i hi) j hj;rw[xE (g:=fun k=>(if k=i then 1 else 0)*ent R' k j) (fun k hk=>by
  congr 1
  have e:=(hpe k).2 (by omega)
  by_cases hki:k=i
  ·subst hki;rw[if_pos rfl,←e];exact h.one k hi
  ·rw[if_neg hki,←e];exact h.off k i (by omega) hi (Ne.symm hki)),zAd (k:=i) hi' (fun k _ hk=>by simp[hk])]at hx
 simp only[if_true,Jab,ent]at hx;have a1:=r1.2 j hj;have a2:=r2.2 j hj;rw[Kh a1.1 (by omega),Kh a2.1 (by omega)]at hx;exact hx
end
end Go.Pl

namespace Go.Pl
open Go Go.Ab Go.Wk Go.Pc
def mkR(m:Nat)(F:Nat→List Int):Mx:=(Jw m).map F
theorem sF{m:Nat}{F:Nat→List Int}:(mkR m F).length=m:=by simp[mkR]
theorem kF{m:Nat}{F:Nat→List Int}{i:Nat}(h:i<m):(mkR m F).getD i []=F i:=by simp[mkR,J2,h]
theorem zJH{m:Nat}{F:Nat→List Int}{i:Nat}(h:i<m):ixO (mkR m F) (i:Int)=some (F i):=by rw[yY [] (by rw[sF];exact h),kF h]
theorem sZ{m:Nat}{F G:Nat→List Int}(h:∀i,i<m→F i=G i):mkR m F=mkR m G:=by
 simp only[mkR];exact Qq fun i hi=>h i (Kk.1 hi)
theorem zWy{R:Mx}{m:Nat}(h:R.length=m):R=mkR m (fun i=>R.getD i []):=zH5 (D:=m) h sF fun i hi=>by rw[kF hi]
theorem zGu{m:Nat}{F:Nat→List Int}{i:Nat}{a:List Int}:(mkR m F).set i a=mkR m (fun k=>if k=i then a else F k):=by
 apply L7;intro k
 by_cases hk:k<m
 ·by_cases h:i=k
  ·subst h;simp[mkR,hk]
  ·rw[Jak h];simp[mkR,hk,Ne.symm h]
 ·rw[Jz (by simp[mkR];omega),Jz (by simp[mkR];omega)]
theorem zEJ{m:Nat}{F:Nat→List Int}{i j:Nat}(h:i<m):ent (mkR m F) i j=at0 (F i) j:=by simp only[ent,kF h]
theorem zRy{s:Nat→Int×Int×Int×Int}(n:Nat){r:Int×Int}(h:∀i,i<n→zPM (s i)=some (.inl (s (i+1))))(he:zPM (s n)=some (.inr r)){p q:Int}(hq:zKk r.2 p=some q)(h1:r.1=1)(hs:s 0=(p,(s 0).2.1,0,1)):
  f_N (s 0).2.1 p=some (q,true):=by
 unfold f_N;rw[←hs,yB s n h he,bs,hq,bs,h1];rfl
def zRz:List (Int×Int×Int×Int)→Nat→Int×Int×Int×Int:=fun l i=>l.getD i (0,0,0,0)
theorem tE(l:List (Int×Int×Int×Int))(n:Nat){r:Int×Int}(h:∀i,i<n→zPM (zRz l i)=some (.inl (zRz l (i+1))))(he:zPM (zRz l n)=some (.inr r)){p q x:Int}(hq:zKk r.2 p=some q)(h1:r.1=1)(hs:zRz l 0=(p,x,0,1)):
  f_N x p=some (q,true):=by
 have:=zRy (s:=zRz l) n h he hq h1 (by rw[hs]);rw[hs]at this;exact this
theorem lt1{P:Nat→Prop}(h0:P 0):∀i,i<1→P i:=fun i hi=>by rw[show i=0 from by omega];exact h0
theorem lt2{P:Nat→Prop}(h0:P 0)(h1:P 1):∀i,i<2→P i:=fun i hi=>by match i,hi with|0,_=>exact h0|1,_=>exact h1
theorem lt3{P:Nat→Prop}(h0:P 0)(h1:P 1)(h2:P 2):∀i,i<3→P i:=fun i hi=>by match i,hi with|0,_=>exact h0|1,_=>exact h1|2,_=>exact h2
theorem zEK{p x:Int}(hp:Prime p)(h0:1≤x)(h1:x≤p-1):∃r,f_N x p=some (r,true)∧0≤r∧r≤p-1∧(x*r)%p=1:=by
 have c:(p=2∧x=1)∨(p=3∧(x=1∨x=2))∨(p=5∧(x=1∨x=2∨x=3∨x=4))∨(p=7∧(x=1∨x=2∨x=3∨x=4∨x=5∨x=6)):=by unfold Prime at hp;omega
 rcases c with⟨rfl,rfl⟩|⟨rfl,rfl|rfl⟩|⟨rfl,rfl|rfl|rfl|rfl⟩|⟨rfl,rfl|rfl|rfl|rfl|rfl|rfl⟩
 ·exact⟨1,tE [(2,1,0,1),(1,0,1,-2)] 1 (lt1 (by decide+kernel)) (r:=(1,1)) (by decide+kernel) (by decide+kernel) rfl rfl,by decide,by decide,by decide⟩
 ·exact⟨1,tE [(3,1,0,1),(1,0,1,-3)] 1 (lt1 (by decide+kernel)) (r:=(1,1)) (by decide+kernel) (by decide+kernel) rfl rfl,by decide,by decide,by decide⟩
 ·exact⟨2,tE [(3,2,0,1),(2,1,1,-1),(1,0,-1,3)] 2 (lt2 (by decide+kernel) (by decide+kernel)) (r:=(1,-1)) (by decide+kernel) (by decide+kernel) rfl rfl,by decide,by decide,by decide⟩
 ·exact⟨1,tE [(5,1,0,1),(1,0,1,-5)] 1 (lt1 (by decide+kernel)) (r:=(1,1)) (by decide+kernel) (by decide+kernel) rfl rfl,by decide,by decide,by decide⟩
 ·exact⟨3,tE [(5,2,0,1),(2,1,1,-2),(1,0,-2,5)] 2 (lt2 (by decide+kernel) (by decide+kernel)) (r:=(1,-2)) (by decide+kernel) (by decide+kernel) rfl rfl,by decide,by decide,by decide⟩
 ·exact⟨2,tE [(5,3,0,1),(3,2,1,-1),(2,1,-1,2),(1,0,2,-5)] 3 (lt3 (by decide+kernel) (by decide+kernel) (by decide+kernel)) (r:=(1,2)) (by decide+kernel) (by decide+kernel) rfl rfl,by decide,by decide,by decide⟩
 ·exact⟨4,tE [(5,4,0,1),(4,1,1,-1),(1,0,-1,5)] 2 (lt2 (by decide+kernel) (by decide+kernel)) (r:=(1,-1)) (by decide+kernel) (by decide+kernel) rfl rfl,by decide,by decide,by decide⟩
 ·exact⟨1,tE [(7,1,0,1),(1,0,1,-7)] 1 (lt1 (by decide+kernel)) (r:=(1,1)) (by decide+kernel) (by decide+kernel) rfl rfl,by decide,by decide,by decide⟩
 ·exact⟨4,tE [(7,2,0,1),(2,1,1,-3),(1,0,-3,7)] 2 (lt2 (by decide+kernel) (by decide+kernel)) (r:=(1,-3)) (by decide+kernel) (by decide+kernel) rfl rfl,by decide,by decide,by decide⟩
 ·exact⟨5,tE [(7,3,0,1),(3,1,1,-2),(1,0,-2,7)] 2 (lt2 (by decide+kernel) (by decide+kernel)) (r:=(1,-2)) (by decide+kernel) (by decide+kernel) rfl rfl,by decide,by decide,by decide⟩
 ·exact⟨2,tE [(7,4,0,1),(4,3,1,-1),(3,1,-1,2),(1,0,2,-7)] 3 (lt3 (by decide+kernel) (by decide+kernel) (by decide+kernel)) (r:=(1,2)) (by decide+kernel) (by decide+kernel) rfl rfl,by decide,by decide,by decide⟩
 ·exact⟨3,tE [(7,5,0,1),(5,2,1,-1),(2,1,-1,3),(1,0,3,-7)] 3 (lt3 (by decide+kernel) (by decide+kernel) (by decide+kernel)) (r:=(1,3)) (by decide+kernel) (by decide+kernel) rfl rfl,by decide,by decide,by decide⟩
 ·exact⟨6,tE [(7,6,0,1),(6,1,1,-1),(1,0,-1,7)] 2 (lt2 (by decide+kernel) (by decide+kernel)) (r:=(1,-1)) (by decide+kernel) (by decide+kernel) rfl rfl,by decide,by decide,by decide⟩
end Go.Pl

namespace Go.Pl
open Go Go.Ab Go.Wk Go.Pc
structure zPx (p:Int) (n m:Nat) (rows:Mx) (c:Nat) (M:Mx) (d:Nat) (pv:Nat→Nat):Prop where
 len:M.length=m
 row:∀i,i<m→Row p n (M.getD i [])
 dm:d≤m
 lt:∀i,i<d→pv i<c
 one:∀i,i<d→ent M i (pv i)=1
 low:∀i,i<d→ ∀j,j<pv i→ent M i j=0
 off:∀i k,i<d→k<m→k≠i→ent M k (pv i)=0
 mono:∀i j,i<j→j<d→pv i<pv j
 zero:∀k,d≤k→k<m→ ∀j,j<c→ent M k j=0
 sp:jD p n M rows
theorem zBK{p:Int}{n m:Nat}{F:Nat→List Int}{i:Nat}(h:i<m):Sp p n (mkR m F) (F i):=by
 have:=qH (p:=p) (n:=n) (R:=mkR m F) (i:=i) (by rw[sF];exact h);rw[kF h]at this;exact this
theorem zR0(a e r p:Int):a%p=((a+(0-e)*r)%p+e*r)%p:=by
 rw[Ko,Kc,←Ko,show a+(0-e)*r+e*r=a from by rw[Int.sub_mul,Ux];omega]
section
variable {p:Int} (hp:Prime p) {n m:Nat}{rows:Mx}{c:Nat}{M:Mx}{d:Nat}{pv:Nat→Nat} (h:zPx p n m rows c M d pv) (hc:c<n) (hd:d<m)
 include hp h hc hd
theorem zPx.pivot{t:Nat}(ht:d≤t)(htm:t<m)(hne:ent M t c≠0){q:Int}(hq:(ent M t c*q)%p=1):
  zPx p n m rows (c+1) (mkR m fun i=>if i=d then mkv n fun j=>(ent M t j*q)%p else sK p n (if i=t then M.getD d []else M.getD i []) (0-at0 (if i=t then M.getD d []else M.getD i []) c) (mkv n fun j=>(ent M t j*q)%p)) (d+1) (fun i=>if i=d then c else pv i):=by
 have h7:=hp.pos;have pr:∀j,j<n→at0 (mkv n fun j=>(ent M t j*q)%p) j=(ent M t j*q)%p:=fun j hj=>yH hj
 have p0:∀j,j<c→(ent M t j*q)%p=0:=fun j hj=>by rw[h.zero t ht htm j hj];simp
 have prow:Row p n (mkv n fun j=>(ent M t j*q)%p):=⟨yD _ _,fun j hj=>by
  have e1:=La (ent M t j*q) (show p≠0 by omega);have e2:=Kw (ent M t j*q) (show 0<p by omega);rw[pr j hj];omega⟩
 have hG:∀i,i<m→i≠d→Row p n (if i=t then M.getD d []else M.getD i []):=fun i hi _=>by
  split
  ·exact h.row d hd
  ·exact h.row i hi
 have eo:∀i j,i<m→i≠d→j<n→ent (mkR m fun i=>if i=d then mkv n fun j=>(ent M t j*q)%p else sK p n (if i=t then M.getD d []else M.getD i []) (0-at0 (if i=t then M.getD d []else M.getD i []) c) (mkv n fun j=>(ent M t j*q)%p)) i j=(at0 (if i=t then M.getD d []else M.getD i []) j+(0-at0 (if i=t then M.getD d []else M.getD i []) c)*((ent M t j*q)%p))%p:=fun i j hi hne' hj=>by
  rw[zEJ hi,if_neg hne',sK,yH hj,pr j hj]
 have el:∀i j,i<m→i≠d→j<c→ent (mkR m fun i=>if i=d then mkv n fun j=>(ent M t j*q)%p else sK p n (if i=t then M.getD d []else M.getD i []) (0-at0 (if i=t then M.getD d []else M.getD i []) c) (mkv n fun j=>(ent M t j*q)%p)) i j=at0 (if i=t then M.getD d []else M.getD i []) j:=fun i j hi hne' hj=>by
  rw[eo i j hi hne' (by omega),p0 j hj,L9,H8];have:=(hG i hi hne').2 j (by omega);exact Kh this.1 (by omega)
 have ed:∀j,j<n→ent (mkR m fun i=>if i=d then mkv n fun j=>(ent M t j*q)%p else sK p n (if i=t then M.getD d []else M.getD i []) (0-at0 (if i=t then M.getD d []else M.getD i []) c) (mkv n fun j=>(ent M t j*q)%p)) d j=(ent M t j*q)%p:=fun j hj=>by
  rw[zEJ hd,if_pos rfl,pr j hj]
 have ec:∀i,i<m→i≠d→ent (mkR m fun i=>if i=d then mkv n fun j=>(ent M t j*q)%p else sK p n (if i=t then M.getD d []else M.getD i []) (0-at0 (if i=t then M.getD d []else M.getD i []) c) (mkv n fun j=>(ent M t j*q)%p)) i c=0:=fun i hi hne'=>by
  rw[eo i c hi hne' hc,hq,Hl];rw[show at0 (if i=t then M.getD d []else M.getD i []) c+(0-at0 (if i=t then M.getD d []else M.getD i []) c)=0 from by omega];simp
 have hlow:∀i,i<d→(if i=t then M.getD d []else M.getD i [])=M.getD i []:=fun i hi=>by rw[if_neg (by omega)]
 have hzr:∀i,d≤i→i<m→ ∀j,j<c→at0 (if i=t then M.getD d []else M.getD i []) j=0:=fun i hi hi2 j hj=>by
  split
  ·exact h.zero d (Jp _) hd j hj
  ·exact h.zero i hi hi2 j hj
 refine⟨sF,fun i hi=>?_,by omega,fun i hi=>?_,fun i hi=>?_,fun i hi j hj=>?_,fun i k hi hk hne'=>?_,fun i j hij hj=>?_,fun k hk hk2 j hj=>?_,?_⟩
 ·rw[kF hi]
  split
  ·exact prow
  ·exact zCG hp
 ·by_cases hid:i=d
  ·rw[if_pos hid];omega
  ·rw[if_neg hid];have:=h.lt i (by omega);omega
 ·by_cases hid:i=d
  ·subst hid;rw[if_pos rfl,ed c hc,hq]
  ·have h1:=h.lt i (by omega)
   rw[if_neg hid,el i _ (by omega) hid h1,hlow i (by omega)];exact h.one i (by omega)
 ·by_cases hid:i=d
  ·subst hid
   rw[if_pos rfl]at hj;rw[ed j (by omega),p0 j hj]
  ·rw[if_neg hid]at hj
   have h1:=h.lt i (by omega);rw[el i j (by omega) hid (by omega),hlow i (by omega)];exact h.low i (by omega) j hj
 ·by_cases hid:i=d
  ·subst hid
   rw[if_pos rfl];exact ec k hk hne'
  ·have h1:=h.lt i (by omega)
   rw[if_neg hid]
   by_cases hkd:k=d
   ·subst hkd
    rw[ed _ (by omega),h.off i t (by omega) htm (by omega)];simp
   ·rw[el k _ hk hkd h1]
    split
    ·exact h.off i d (by omega) hd (Ne.symm hid)
    ·exact h.off i k (by omega) hk hne'
 ·by_cases hjd:j=d
  ·subst hjd
   rw[if_pos rfl,if_neg (by omega)];exact h.lt i (by omega)
  ·rw[if_neg hjd,if_neg (by omega)];exact h.mono i j hij (by omega)
 ·rcases Jk j c with hjc|hjc
  ·rw[el k j hk2 (by omega) hjc];exact hzr k (by omega) hk2 j hjc
  ·rw[show j=c from by omega];exact ec k hk2 (by omega)
 ·refine jD.trans ⟨fun i hi=>?_,fun i hi=>?_⟩ h.sp
  ·rw[sF]at hi
   rw[kF hi];have hr:Sp p n M (mkv n fun j=>(ent M t j*q)%p):=by
    refine zAV (k:=q) (zEI (u:=[]) fun j _=>by simp[at0]) (qH (R:=M) (i:=t) (by rw[h.len];exact htm)) fun j hj=>?_
    rw[pr j hj,Kc,U8];simp[at0]
   split
   ·exact hr
   ·refine zAV (k:=0-at0 (if i=t then M.getD d []else M.getD i []) c) (v:=if i=t then M.getD d []else M.getD i []) ?_ hr fun j hj=>?_
    ·split
     ·exact qH (by rw[h.len];exact hd)
     ·exact qH (by rw[h.len];exact hi)
    ·rw[sK,yH hj,Kc]
  ·rw[h.len]at hi
   have hr:=zBK (p:=p) (n:=n) (m:=m) (F:=fun i=>if i=d then mkv n fun j=>(ent M t j*q)%p else sK p n (if i=t then M.getD d []else M.getD i []) (0-at0 (if i=t then M.getD d []else M.getD i []) c) (mkv n fun j=>(ent M t j*q)%p)) hd;simp only[if_true]at hr;have hg:∀k,k<m→k≠d→Sp p n (mkR m fun i=>if i=d then mkv n fun j=>(ent M t j*q)%p else sK p n (if i=t then M.getD d []else M.getD i []) (0-at0 (if i=t then M.getD d []else M.getD i []) c) (mkv n fun j=>(ent M t j*q)%p)) (if k=t then M.getD d []else M.getD k []):=fun k hk hkd=>by
    have h1:=zBK (p:=p) (n:=n) (m:=m) (F:=fun i=>if i=d then mkv n fun j=>(ent M t j*q)%p else sK p n (if i=t then M.getD d []else M.getD i []) (0-at0 (if i=t then M.getD d []else M.getD i []) c) (mkv n fun j=>(ent M t j*q)%p)) hk;simp only[if_neg hkd]at h1;refine zAV (k:=at0 (if k=t then M.getD d []else M.getD k []) c) h1 hr fun j hj=>?_
    rw[sK,yH hj,pr j hj];exact zR0 _ _ _ _
   by_cases hit:i=t
   ·
    subst hit;refine zAV (k:=ent M i c) (zEI (u:=[]) fun j _=>by simp[at0]) hr fun j hj=>?_
    rw[pr j hj];have e1:(ent M i c*((ent M i j*q)%p))%p=(ent M i j*((ent M i c*q)%p))%p:=by
     rw[Jv,Kc,←Jv,Jv (ent M i j),Kc,←Jv]
     congr 1
     rw[←He,←He,U8 (ent M i c)]
    rw[show at0 ([]:List Int) j=0 from by simp[at0],Lp,e1,hq,Hl]
   ·by_cases hid:i=d
    ·subst hid
     have:=hg t htm (by omega);rw[if_pos rfl]at this;exact this
    ·have:=hg i hi hid
     rw[if_neg hit]at this;exact this
end
end Go.Pl

namespace Go.Pl
open Go Go.Ab Go.Wk Go.Pc
theorem zMO{v:List Int}(h:v.length≤1000000):f_L v=some v:=by
 unfold f_L;rw[xK (by simp;omega),bs,Jj]
theorem zIs{rows:Mx}(hm:rows.length≤1000000)(hn:∀i,i<rows.length→(rows.getD i []).length≤1000000):zUE rows=some rows:=by
 unfold zUE;have:=yB (body:=zMa rows) (r:=rows) (fun i=>(rows.take i,(i:Int))) rows.length (fun i hi=>by
  unfold zMa;simp only
  rw[xV hi,zQ,yY [] hi,bs,zMO (hn i hi),bs,xK (by simp;omega),bs,zE (by omega) (by omega),bs,cs,Ka hi,J2,J3 hi];rfl) (by
  unfold zMa;simp only
  rw[wC,zL,Lx])
 rw[show((0:Nat):Int)=0 from rfl,K8]at this;rw[this,bs]
theorem zPy{M:Mx}{d c m n:Nat}(hm:M.length=m)(hd:d≤m)(hmm:m≤1000000)(hrow:∀i,i<m→(M.getD i []).length=n)(hc:c<n):
  ∃t:Nat,d≤t∧t≤m∧zJ (zIu (M,(d:Int),(c:Int))) (d:Int)=some (t:Int)∧(∀k,d≤k→k<t→ent M k c=0)∧(t<m→ent M t c≠0):=by
 have key:∀k,k≤m-d→ ∃t:Nat,m-k≤t∧t≤m∧zJ (zIu (M,(d:Int),(c:Int))) ((m-k:Nat):Int)=some (t:Int)∧(∀q,m-k≤q→q<t→ent M q c=0)∧(t<m→ent M t c≠0):=by
  intro k
  induction k with
  |zero=>
   intro _;refine⟨m,by omega,Jp _,?_,fun q h1 h2=>by omega,fun h=>by omega⟩;rw[xT];unfold zIu;simp only
   rw[hm,show m-0=m from rfl,wC,zL]
  |succ k ih=>
   intro hk;obtain⟨t,h1,h2,h3,h4,h5⟩:=ih (by omega);have hlt:m-(k+1)<m:=by omega
   by_cases hz:ent M (m-(k+1)) c=0
   ·refine⟨t,by omega,h2,?_,fun q q1 q2=>?_,h5⟩
    ·rw[xT]
     have e:zIu (M,(d:Int),(c:Int)) ((m-(k+1):Nat):Int)=some (.inl ((m-k:Nat):Int)):=by
      unfold zIu;simp only
      rw[hm,xV hlt,zQ,yY [] (by omega),bs,xD (by rw[hrow _ hlt];exact hc),bs,zL0 hz,zQ,zE (by omega) (by omega),bs,cs,show m-(k+1)+1=m-k from by omega]
     rw[e];exact h3
    ·rcases Jk (m-(k+1)) q with g|g
     ·exact h4 q (by omega) q2
     ·rw[show q=m-(k+1)from by omega];exact hz
   ·refine⟨m-(k+1),Jp _,by omega,?_,fun q q1 q2=>by omega,fun _=>hz⟩
    rw[xT];have e:zIu (M,(d:Int),(c:Int)) ((m-(k+1):Nat):Int)=some (.inr ((m-(k+1):Nat):Int)):=by
     unfold zIu;simp only
     rw[hm,xV hlt,zQ,yY [] (by omega),bs,xD (by rw[hrow _ hlt];exact hc),bs,zL1 hz,zL]
    rw[e]
 obtain⟨t,h1,h2,h3,h4,h5⟩:=key (m-d) (Jp _);rw[show m-(m-d)=d from by omega]at h1 h3 h4;exact⟨t,h1,h2,h3,h4,h5⟩
section
variable {p:Int} (hp:Prime p) {n m:Nat}{M:Mx}{d c t:Nat}
 include hp
theorem zMP{F:Nat→List Int}{q:Int}{b:Bool}(hd:d<m)(hr:Row p n (F d))(hn:n≤1000000)(hq:0≤q∧q≤p-1){v:List Int}(hv:v.length=n){s:Mx×Int×Int}(hs:s.2.1=(d:Int)):
  zJ (zMb p s (q,b) v) (mkR m F,0)=some (mkR m fun i=>if i=d then mkv n fun j=>(at0 (F d) j*q)%p else F i):=by
 have h7:=hp.pos;have:=yB (body:=zMb p s (q,b) v) (r:=mkR m fun i=>if i=d then mkv n fun j=>(at0 (F d) j*q)%p else F i) (fun k=>(mkR m fun i=>if i=d then mkv n (fun j=>if j<k then(at0 (F d) j*q)%p else at0 (F d) j)else F i,(k:Int))) n (fun k hk=>by
  have a1:=hr.2 k hk;have a2:=zBJ hp (k:=q) ⟨by omega,by omega⟩ a1;have a3:=Qi a1.1 hq.1;rw[U8]at a2;unfold zMb;simp only
  rw[hv,xV hk,zQ,hs,zJH hd];simp only[bs,if_true];rw[xD (by rw[yD];exact hk),yH hk,if_neg (by omega)];simp only[bs];rw[zE (by omega) (by omega)];simp only[bs,uL];rw[if_neg (by omega)];simp only[bs];rw[Li a3,zE (by omega) (by omega)];simp only[bs,Jg,cs];rw[zGu]
  congr 3
  refine sZ fun i _=>?_
  by_cases hi:i=d
  ·rw[if_pos hi,if_pos hi,zAo]
   refine zY fun j _=>?_
   by_cases hj:j=k
   ·subst hj;rw[if_pos rfl,if_pos (by omega)]
   ·rw[if_neg hj]
    by_cases hj2:j<k
    ·rw[if_pos hj2,if_pos (by omega)]
    ·rw[if_neg hj2,if_neg (by omega)]
  ·rw[if_neg hi,if_neg hi,if_neg hi]) (by
  unfold zMb;simp only
  rw[hv,wC,zL]
  congr 2
  refine sZ fun i _=>?_
  split
  ·exact zY fun j hj=>by rw[if_pos hj]
  ·rfl)
 rw[show((0:Nat):Int)=0 from rfl]at this;rw[←this]
 congr 2
 refine sZ fun i _=>?_
 split
 ·rename_i e;subst e
  conv=>lhs;rw[uE hr.1]
  exact zY fun j _=>by rw[if_neg (by omega)]
 ·rfl
theorem zMQ{F:Nat→List Int}(hd:d<m)(hc:c<n)(hr:∀i,i<m→Row p n (F i))(hn:n≤1000000)(hm:m≤1000000){r21:Mx}(hl:r21.length=m){s:Mx×Int×Int}(hs:s.2.1=(d:Int))(hs2:s.2.2=(c:Int)):
  zJ (zNs p s r21) (mkR m F,0)=some (mkR m fun i=>if i=d then F d else sK p n (F i) (0-at0 (F i) c) (F d)):=by
 have h7:=hp.pos;have:=yB (body:=zNs p s r21) (r:=mkR m fun i=>if i=d then F d else sK p n (F i) (0-at0 (F i) c) (F d)) (fun k=>(mkR m fun i=>if i<k∧i≠d then sK p n (F i) (0-at0 (F i) c) (F d)else F i,(k:Int))) m (fun k hk=>by
  have a1:=(hr k hk).2 c hc;unfold zNs;simp only
  rw[hl,xV hk,zQ,hs,hs2]
  by_cases hkd:k=d
  ·subst hkd
   rw[zAb rfl,zL,zE (by omega) (by omega),bs,cs]
   congr 3
   refine sZ fun i _=>?_
   by_cases hi:i=k
   ·subst hi;rw[if_neg (by omega),if_neg (by omega)]
   ·by_cases hi2:i<k
    ·rw[if_pos ⟨hi2,hi⟩,if_pos ⟨by omega,hi⟩]
    ·rw[if_neg (by omega),if_neg (by omega)]
  ·rw[zAc (by omega),zQ,zJH hk,zJH hd]
   simp only[bs,ne_eq,not_true_eq_false,and_false,if_false,Jc6,false_and];rw[xD (by rw[(hr k hk).1];exact hc)];simp only[bs];rw[zE (by omega) (by omega)];simp only[bs];rw[zJa hp (hr k hk) (hr d hd) (by omega) hn,bs,zE (by omega) (by omega)];simp only[bs,Jg,cs];rw[zGu]
   congr 3
   refine sZ fun i _=>?_
   by_cases hi:i=k
   ·subst hi;rw[if_pos rfl,if_pos ⟨by omega,hkd⟩]
   ·rw[if_neg hi]
    by_cases hi2:i<k∧ ¬i=d
    ·rw[if_pos hi2,if_pos ⟨by omega,hi2.2⟩]
    ·rw[if_neg hi2,if_neg (by omega)]) (by
  unfold zNs;simp only
  rw[hl,wC,zL]
  congr 2
  refine sZ fun i hi=>?_
  by_cases hid:i=d
  ·rw[if_pos hid,if_neg (by omega),hid]
  ·rw[if_neg hid,if_pos ⟨hi,hid⟩])
 rw[show((0:Nat):Int)=0 from rfl]at this;rw[←this]
 congr 2
end
end Go.Pl

namespace Go.Pl
open Go Go.Ab Go.Wk Go.Pc
theorem Red.empty{p:Int}{n:Nat}:Red p n [] (fun _=>0):=⟨fun _ h=>by simp at h,fun _ h=>by simp at h,fun _ h=>by simp at h,fun _ h=>by simp at h,fun _ _ h=>by simp at h,fun _ _ _ h=>by simp at h⟩
theorem zPx.take{p:Int}{n m:Nat}{rows:Mx}{c:Nat}{M:Mx}{d:Nat}{pv:Nat→Nat}(h:zPx p n m rows c M d pv)(hcn:c≤n)(hz:∀k,d≤k→k<m→ ∀j,j<n→ent M k j=0):Red p n (M.take d) pv∧jD p n (M.take d) rows:=by
 have hl:(M.take d).length=d:=by rw[Jy,h.len];exact Gd h.dm
 have hg:∀i,i<d→(M.take d).getD i []=M.getD i []:=fun i hi=>by simp only[J2,H1,if_pos hi]
 have dm:=h.dm;refine⟨⟨fun i hi=>?_,fun i hi=>?_,fun i hi=>?_,fun i hi j hj=>?_,fun i k hi hk hne=>?_,fun i j hij hj=>?_⟩,jD.trans ⟨fun i hi=>?_,fun i hi=>?_⟩ h.sp⟩
 ·rw[hl]at hi;rw[hg i hi];exact h.row i (by omega)
 ·rw[hl]at hi;have:=h.lt i hi;omega
 ·rw[hl]at hi;simp only[ent,hg i hi];exact h.one i hi
 ·rw[hl]at hi;simp only[ent,hg i hi];exact h.low i hi j hj
 ·rw[hl]at hi hk;simp only[ent,hg k hk];exact h.off i k hi (by omega) hne
 ·rw[hl]at hj;exact h.mono i j hij hj
 ·rw[hl]at hi;rw[hg i hi];exact qH (by rw[h.len];omega)
 ·rw[h.len]at hi
  rcases Jk i d with g|g
  ·have:=qH (p:=p) (n:=n) (R:=M.take d) (i:=i) (by rw[hl];exact g)
   rw[hg i g]at this;exact this
  ·exact zEI fun j hj=>by
    have:=hz i g hi j hj;simp only[ent]at this;rw[this];rfl
section
variable {p:Int} (hp:Prime p) {n:Nat}{rows:Mx} (hn:n≤100000) (hm:rows.length≤600000) (hr:∀i,i<rows.length→Row p n (rows.getD i []))
 include hp hn hm hr
theorem zL2:∃R pv,f_j p rows=some R∧Red p n R pv∧jD p n R rows:=by
 have h7:=hp.pos;unfold f_j;rw[zIs (by omega) (fun i hi=>by have:=(hr i hi).1;omega),bs];have main:=tD (body:=zNt p) (s:=(rows,0,0)) (Q:=fun r=> ∃(M:Mx)(d:Nat)(pv:Nat→Nat),r=(M,(d:Int))∧d≤M.length∧Red p n (M.take d) pv∧jD p n (M.take d) rows)
  (fun i s=> ∃(M:Mx)(d:Nat)(pv:Nat→Nat),s=(M,(d:Int),(i:Int))∧zPx p n rows.length rows i M d pv∧i≤n) n (fun c s hc hI=>?_) (fun s hI=>?_) ⟨rows,0,fun _=>0,rfl,⟨rfl,hr,Ke _,fun _ h=>by omega,fun _ h=>by omega,fun _ h=>by omega,fun _ _ h=>by omega,fun _ _ _ h=>by omega,fun _ _ _ _ h=>by omega,jD.refl⟩,Ke _⟩
 ·obtain⟨r,h1,M,d,pv,rfl,hd,hR,hS⟩:=main
  rw[h1,bs];simp only
  have e:yA M 0 (d:Int)=some (M.take d):=by
   unfold yA;rw[if_pos ⟨by omega,by omega,by omega⟩];simp
  rw[e,bs];exact⟨_,_,rfl,hR,hS⟩
 ·
  obtain⟨M,d,pv,rfl,h,hcn⟩:=hI;have hl:=h.len;have hdm:=h.dm
  by_cases h0:rows.length=0
  ·refine .inr ⟨(M,(d:Int)),?_,M,d,pv,rfl,by omega,h.take hcn fun k hk hk2=>by omega⟩
   unfold zNt;simp only
   rw[decide_eq_false (by omega),zL]
  have e0:zNt p (M,(d:Int),(c:Int))=cond (decide ((d:Int)<(M.length:Int))) ((zJ (zIu (M,(d:Int),(c:Int))) (d:Int)).bind fun r6=>
    cond (r6==(M.length:Int)) ((rng ((c:Int)+1)).bind fun v7=>some (.inl (M,(d:Int),v7))) (
     (ixO M r6).bind fun v8=>(ixO M (d:Int)).bind fun v9=>(ixO (jJ M (d:Int) r6 v8 v9) (d:Int)).bind fun v10=>(ixO v10 (c:Int)).bind fun v11=>(f_N v11 p).bind fun r12=>
     (ixO (jJ M (d:Int) r6 v8 v9) (d:Int)).bind fun v13=>(zJ (zMb p (M,(d:Int),(c:Int)) r12 v13) (jJ M (d:Int) r6 v8 v9,0)).bind fun r21=>
     (zJ (zNs p (M,(d:Int),(c:Int)) r21) (r21,0)).bind fun r30=>(rng ((d:Int)+1)).bind fun v31=>(rng ((c:Int)+1)).bind fun v32=>some (.inl (r30,v31,v32)))) (some (.inr (M,(d:Int)))):=by
   unfold zNt;simp only
   have hx:ixO M (0:Int)=some (M.getD 0 []):=by
    have:=yY (v:=M) (i:=0) [] (by omega);exact this
   rw[decide_eq_true (by omega),zQ,hx];simp only[bs];rw[(h.row 0 (by omega)).1,xV hc,zQ]
  rcases Jk d rows.length with hd|hd
  ·obtain⟨t,t1,t2,t3,t4,t5⟩:=zPy (M:=M) (d:=d) (c:=c) (m:=rows.length) (n:=n) hl hdm (by omega) (fun i hi=>(h.row i hi).1) hc
   rw[e0,hl,xV hd,zQ,t3];simp only[bs]
   by_cases htm:t=rows.length
   ·
    left;refine⟨(M,(d:Int),((c+1:Nat):Int)),?_,M,d,pv,rfl,⟨hl,h.row,hdm,fun i hi=>by have:=h.lt i hi;omega,h.one,h.low,h.off,h.mono,fun k k1 k2 j hj=>?_,h.sp⟩,by omega⟩
    ·rw[zL0 (by omega),zQ,zE (by omega) (by omega),bs,cs]
    ·rcases Jk j c with g|g
     ·exact h.zero k k1 k2 j g
     ·rw[show j=c from by omega];exact t4 k k1 (by omega)
   ·have htl:t<rows.length:=by omega
    have hne:=t5 htl;have hrt:=h.row t htl;have hrc:=hrt.2 c hc;obtain⟨q,q1,q2,q3,q4⟩:=zEK (p:=p) (x:=ent M t c) hp (by simp only[ent]at hne ⊢;omega) (by simp only[ent];omega);left;have hM:M=mkR rows.length (fun i=>M.getD i []):=zWy hl;obtain⟨F,hF⟩:∃F:Nat→List Int,∀i,F i=if i=t then M.getD d []else if i=d then M.getD t []else M.getD i []:=⟨_,fun _=>rfl⟩
    have hsw:jJ M (d:Int) (t:Int) (M.getD t []) (M.getD d [])=mkR rows.length F:=by
     unfold jJ;rw[Jg,Jg]
     conv=>lhs;rw[hM]
     rw[zGu,zGu];exact sZ fun i hi=>by rw[hF,kF hd,kF htl]
    have hrow2:∀i,i<rows.length→Row p n (F i):=fun i hi=>by
     rw[hF];split
     ·exact h.row d hd
     ·split
      ·exact hrt
      ·exact h.row i hi
    have hFd:F d=M.getD t []:=by
     rw[hF]
     by_cases e:d=t
     ·rw[if_pos e,e]
     ·rw[if_neg e,if_pos rfl]
    obtain⟨G,hG⟩:∃G:Nat→List Int,∀i,G i=if i=d then mkv n fun j=>(at0 (F d) j*q)%p else F i:=⟨_,fun _=>rfl⟩
    have hGd:G d=mkv n fun j=>(ent M t j*q)%p:=by rw[hG,if_pos rfl,hFd]
    have hGo:∀i,i≠d→G i=if i=t then M.getD d []else M.getD i []:=fun i hid=>by rw[hG,if_neg hid,hF];simp only[hid,if_false]
    have hsc:zJ (zMb p (M,(d:Int),(c:Int)) (q,true) (M.getD t [])) (mkR rows.length F,0)=some (mkR rows.length G):=by
     rw[zMP hp (F:=F) hd (hrow2 d hd) (by omega) ⟨q2,q3⟩ hrt.1 rfl]
     congr 1
     exact sZ fun i _=>(hG i).symm
    have hF3:∀i,i<rows.length→Row p n (G i):=fun i hi=>by
     rw[hG];split
     ·refine⟨yD _ _,fun j hj=>?_⟩
      have e1:=La (at0 (F d) j*q) (show p≠0 by omega);have e2:=Kw (at0 (F d) j*q) (show 0<p by omega);rw[yH hj];omega
     ·exact hrow2 i hi
    have hcl:=zMQ hp (c:=c) (F:=G) hd hc hF3 (by omega) (by omega) (r21:=mkR rows.length G) sF (s:=(M,(d:Int),(c:Int))) rfl rfl;rw[zL1 (by omega),zL,yY [] (by omega),yY [] (by omega)];simp only[bs];rw[hsw,zJH hd,hFd];simp only[bs];rw[xD (by rw[hrt.1];exact hc)];simp only[bs];rw[show at0 (M.getD t []) c=ent M t c from rfl,q1];simp only[bs];rw[hsc];simp only[bs];rw[hcl];simp only[bs];rw[zE (by omega) (by omega),zE (by omega) (by omega)];simp only[bs,cs];have hfin:=h.pivot hp hc hd t1 htl hne q4;refine⟨_,rfl,_,d+1,fun i=>if i=d then c else pv i,rfl,?_,by omega⟩;have e3:(mkR rows.length fun i=>if i=d then G d else sK p n (G i) (0-at0 (G i) c) (G d))=(mkR rows.length fun i=>if i=d then mkv n fun j=>(ent M t j*q)%p else sK p n (if i=t then M.getD d []else M.getD i []) (0-at0 (if i=t then M.getD d []else M.getD i []) c) (mkv n fun j=>(ent M t j*q)%p)):=by
     refine sZ fun i hi=>?_
     rw[hGd]
     by_cases hid:i=d
     ·rw[if_pos hid,if_pos hid]
     ·rw[if_neg hid,if_neg hid,hGo i hid]
    rw[e3];exact hfin
  ·
   refine .inr ⟨(M,(d:Int)),?_,M,d,pv,rfl,by omega,h.take hcn fun k hk hk2=>by omega⟩;rw[e0,decide_eq_false (by omega),zL]
 ·
  obtain⟨M,d,pv,rfl,h,hcn⟩:=hI;have hl:=h.len;have hdm:=h.dm;refine⟨(M,(d:Int)),?_,M,d,pv,rfl,by omega,h.take hcn fun k hk hk2 j hj=>h.zero k hk hk2 j hj⟩;unfold zNt;simp only
  by_cases h0:rows.length=0
  ·rw[decide_eq_false (by omega),zL]
  ·have hx:ixO M (0:Int)=some (M.getD 0 []):=by
    have:=yY (v:=M) (i:=0) [] (by omega);exact this
   rw[decide_eq_true (by omega),zQ,hx];simp only[bs];rw[(h.row 0 (by omega)).1,wC,zL]
end
end Go.Pl
