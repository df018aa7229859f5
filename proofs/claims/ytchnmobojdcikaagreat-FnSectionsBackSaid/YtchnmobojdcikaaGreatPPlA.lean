/- x -/
import Derived.Test.YtchnmobojdcikaaGreatPAbB
import Derived.Test.YtchnmobojdcikaaGreatPWF
open List renaming replicate→J1,getD_eq_getElem?_getD→J2,getElem?_eq_getElem→J5,replicate_append_replicate→J9,getElem?_append_right→Ja,length_append→Jb,getElem?_eq_some_iff→Jc,mem_map→Jd,append_assoc→Je,append_nil→Jf,map_cons→Jg,take_of_length_le→Jk,mem_cons→Jl,getElem?_map→Jm,range→Jn,length_map→Jo,take_left'→Jp,mem_range→Jq,eq_nil_of_length_eq_zero→Jr,nil_append→Js,length_replicate→Ju,mem_iff_getElem→Jv,length_cons→Jw,getElem?_append_left→Jz,drop_append_of_le_length→K3,getElem?_append→K4,take_succ_cons→K6,length_take→K7,ext_getElem?→K8,drop_left'→K9,getElem?_replicate→Ka,take_succ_eq_append_getElem→Kb,mem_append→Kd,length_drop→Kj,getElem?_eq_none→Ko,getElem_mem→Kt,replicate_succ→Kv,getElem?_drop→Kw,drop_replicate→Ky,map_congr_left→L4,set_cons_zero→L6,range_succ→L8,take_zero→Lb,drop_eq_getElem_cons→Lh,drop_of_length_le→Lr,singleton_append→Lu,getD_cons_zero→Ly,map_append→H6,length_nil→Hi,range_succ_eq_map→Hm,cons_append→Hn,replicate_zero→Hv,take_append_drop→G8,all_cons→Ga,mem_flatMap→Ge,map_nil→Gf,map_map→Gl,length_range→Gm,range'→Gw,getElem?_cons_zero→U1,drop_zero→U5,set_append_right→U7,suffix_cons_iff→Ud,replicate_succ'→Ue,mem_of_mem_drop→Uf,findSome?_cons→Ul,drop_append→Q4,getElem?_cons_succ→Q7,flatMap_append→Q8,cons→Q9,getElem?_set→Qg,range'_succ→Qi,length→Ql
open Bool renaming and_eq_true→J3,not_true→J6,not_false→Jx
open Nat renaming zero_add→J7,le_refl→Ji,lt_or_ge→K2,zero_le→Kc,sub_self→Ks,add_assoc→Lf,succ_mul→Lt,le_trans→H0,add_zero→Uz,add_comm→Q0,sub_zero→Qk,min_eq_left→Qs
open Int renaming toNat_natCast→Jj,emod_eq_of_lt→Kl,mul_le_mul→Kq,emod_lt_of_pos→Kr,emod_nonneg→L5,tdiv_eq_ediv_of_nonneg→Lg,emod_emod→Li,zero_add→Lw,mul_emod→H1,mul_le_mul_of_nonneg_left→H7,toNat_zero→H8,tmod_eq_emod_of_nonneg→H9,add_emod_right→Ha,add_zero→Ho,add_emod→Hp,zero_mul→Gb,tmod_lt_of_pos→Gp,mul_one→Gr,mul_nonneg→Gx,mul_zero→U9,tmod_add_mul_tdiv→Uj,toNat_of_nonneg→Us,lt_tmod_of_pos→Ux,tmod→Qh,sub_emod→Qm,one_mul→Qo
open Option renaming map_eq_some_iff→K1,getD_some→La,some→Hk,map_some→Gt
open Option renaming some→aB,none→aC
open Bool renaming true→aD,false→aE
namespace Go.Pc
abbrev Vec:=List Int
structure Lvl where
 o:Int
 w:Vec
 cs:List Vec
abbrev Pcp:=List Lvl
def zeros(n:Nat):Vec:=J1 n 0
def iter{α:Type}:Nat→(α→α)→α→α
 |0,_,x=>x
 |n+1,f,x=>iter n f (f x)
theorem vJ{α:Type}(f:α→α):∀(n:Nat)(x:α),iter (n+1) f x=f (iter n f x)
 |0,_=>rfl
 |n+1,x=>by rw[iter,vJ f n (f x)];rfl
theorem zDu{α:Type}(f:α→α)(a:Nat):∀(b:Nat)(x:α),iter (a+b) f x=iter a f (iter b f x)
 |0,_=>rfl
 |b+1,x=>by show iter (a+b) f (f x)=_;rw[zDu f a b (f x)];rfl
def img{α:Type}(m:α→α→α):List α→Vec→α→α
 |c::cs,x::xs,acc=>img m cs xs (iter x.toNat (fun v=>m v c) acc)
 |_,_,acc=>acc
def V:Pcp→Vec→Prop
 | [],v=>v=[]
 |l::P,v=>match v with
  | []=>False
  |a::x=>(0≤a∧a<l.o)∧V P x
def mul:Pcp→Vec→Vec→Vec
 |l::P,a::x,b::y=>
  let r:=mul P (iter b.toNat (fun v=>img (mul P) l.cs v (zeros P.length)) x) y
  if a+b≥l.o then(a+b-l.o)::mul P l.w r else(a+b)::r
 |_,_,_=>[]
def Ok:Pcp→Prop
 | []=>True
 |l::P=>1<l.o∧V P l.w∧l.cs.length=P.length∧(∀c∈l.cs,V P c)∧Ok P
structure Mon {α:Type} (S:α→Prop) (m:α→α→α) (e:α):Prop where
 cl:∀{a b},S a→S b→S (m a b)
 ein:S e
 assoc:∀{a b c},S a→S b→S c→m (m a b) c=m a (m b c)
 onel:∀{a},S a→m e a=a
 oner:∀{a},S a→m a e=a
structure Grp {α:Type} (S:α→Prop) (m:α→α→α) (e:α):Prop extends Mon S m e where
 inv:∀{a},S a→ ∃b,S b∧m a b=e
theorem Grp.invl{α:Type}{S:α→Prop}{m:α→α→α}{e:α}(h:Grp S m e){a:α}(ha:S a):∃b,S b∧m a b=e∧m b a=e:=by
 obtain⟨b,hb,h1⟩:=h.inv ha;obtain⟨c,hc,h2⟩:=h.inv hb;refine⟨b,hb,h1,?_⟩;have:a=c:=by rw[←h.oner ha,←h2,←h.assoc ha hb hc,h1,h.onel hc]
 grind
theorem Grp.cancel_l{α:Type}{S:α→Prop}{m:α→α→α}{e:α}(h:Grp S m e){a b c:α}(ha:S a)(hb:S b)(hc:S c)(hh:m a b=m a c):b=c:=by obtain⟨d,hd,_,h2⟩:=h.invl ha;rw[←h.onel hb,←h.onel hc,←h2,h.assoc hd ha hb,h.assoc hd ha hc,hh]
section
variable {α:Type}{S:α→Prop}{m:α→α→α}{e:α}
def pw(m:α→α→α)(e:α)(x:α)(k:Nat):α:=iter k (fun v=>m v x) e
theorem uM(h:Mon S m e){x:α}(hx:S x):∀k,S (pw m e x k)
 |0=>h.ein
 |k+1=>by rw[pw,vJ];exact h.cl (uM h hx k) hx
theorem wO{f:α→α}(hf:∀a,S a→S (f a)):∀(k:Nat){x:α},S x→S (iter k f x)
 |0,_,hx=>hx
 |k+1,_,hx=>wO hf k (hf _ hx)
theorem zDv(h:Mon S m e){x a:α}(hx:S x)(ha:S a):∀k,iter k (fun v=>m v x) a=m a (pw m e x k)
 |0=>(h.oner ha).symm
 |k+1=>by rw[vJ,zDv h hx ha k];show _=m a (iter (k+1) (fun v=>m v x) e);rw[vJ];exact h.assoc ha (uM h hx k) hx
theorem zFC(h:Mon S m e){x:α}(hx:S x)(a b:Nat):pw m e x (a+b)=m (pw m e x a) (pw m e x b):=by rw[Q0,pw,zDu,←zDv h hx (uM h hx a) b];rfl
theorem zOn(h:Mon S m e){x:α}(hx:S x):pw m e x 1=x:=h.onel hx
theorem zOo(h:Mon S m e){x:α}(hx:S x)(k:Nat):pw m e x (k+1)=m x (pw m e x k):=by rw[Q0,zFC h hx 1 k,zOn h hx]
theorem sD(h:∀{a b},S a→S b→S (m a b)):∀(cs:List α)(x:Vec){a:α},(∀c∈cs,S c)→S a→S (img m cs x a)
 |c::cs,x::xs,_,hc,ha=>by simp only[img];exact sD h cs xs (by grind) (wO (by simp_all) _ ha)
 | [],_,_,_,ha=>by grind[img]
 |_::_,[],_,_,ha=>by grind[img]
theorem zDW(h:Mon S m e)(cs:List α)(x:Vec){a:α}(hc:∀c∈cs,S c)(ha:S a):S (img m cs x a):=sD h.cl cs x hc ha
theorem zDw(h:Mon S m e):∀(cs:List α)(x:Vec){a:α},(∀c∈cs,S c)→S a→img m cs x a=m a (img m cs x e)
 |c::cs,x::xs,a,hc,ha=>by
  have h1:S c:=hc c (by simp);have h2:∀c∈cs,S c:=by grind
  simp only[img];rw[zDv h h1 ha,zDw h cs xs h2 (h.cl ha (uM h h1 _)),zDv h h1 h.ein,zDw h cs xs h2 (h.cl h.ein (uM h h1 _)),h.onel (uM h h1 _),
   h.assoc ha (uM h h1 _) (zDW h cs xs h2 h.ein)]
 | [],_,a,_,ha=>by simp[img,h.oner ha]
 |_::_,[],a,_,ha=>by simp[img,h.oner ha]
theorem tV(h:Mon S m e){c:α}{cs:List α}{x:Int}{xs:Vec}(hc:S c)(gK:∀c∈cs,S c):img m (c::cs) (x::xs) e=m (pw m e c x.toNat) (img m cs xs e):=by simp only[img];rw[zDw h cs xs gK (wO (fun a ha=>h.cl ha hc) _ h.ein)];rfl
theorem zBb(m:α→α→α):∀(cs:List α)(n:Nat)(a:α),img m cs (zeros n) a=a
 | [],_,_=>by simp[img]
 |_::_,0,_=>by rfl
 |c::cs,n+1,a=>by simp only[zeros,Kv,img,H8,iter];exact zBb m cs n a
theorem zFD(h:Mon S m e){g:α}(hg:S g):∀(cs ds:List α)(x:Vec),(∀c∈cs,S c)→(∀c∈ds,S c)→cs.length=ds.length→(∀(k:Nat) c d,cs[k]? =aB c→ds[k]? =aB d→m c g=m g d)→m (img m cs x e) g=m g (img m ds x e)
 | [],[],x,_,_,_,_=>by simp[img,h.onel hg,h.oner hg]
 |c::cs,d::ds,[],_,_,_,_=>by simp[img,h.onel hg,h.oner hg]
 |c::cs,d::ds,x::xs,hc,hd,hl,hp=>by
  have es:S c:=hc c (by simp);have hd0:S d:=hd d (by simp);have gK:∀c∈cs,S c:=by grind
  have fY:∀c∈ds,S c:=by grind
  have key:∀k,m (pw m e c k) g=m g (pw m e d k):=by
   intro k
   induction k with
   |zero=>simp[pw,iter,h.onel hg,h.oner hg]
   |succ k ih=>
    have h0:m c g=m g d:=hp 0 c d rfl rfl;rw[pw,vJ,pw,vJ];show m (m (pw m e c k) c) g=m g (m (pw m e d k) d);rw[h.assoc (uM h es k) es hg,h0,←h.assoc (uM h es k) hg hd0,ih,h.assoc hg (uM h hd0 k) hd0]
  rw[tV h es gK,tV h hd0 fY,h.assoc (uM h es _) (zDW h _ _ gK h.ein) hg,zFD h hg cs ds xs gK fY (by grind) (fun k c d h1 h2=>hp (k+1) c d (by grind) (by grind)),
   ←h.assoc (uM h es _) hg (zDW h _ _ fY h.ein),key,h.assoc hg (uM h hd0 _) (zDW h _ _ fY h.ein)]
theorem zLz{β:Type}{T:β→Prop}{n:β→β→β}{f:β}(h:Mon S m e)(h':Mon T n f)(φ:α→β)(gF:∀a,S a→T (φ a))(h1:φ e=f)(hm:∀a b,S a→S b→φ (m a b)=n (φ a) (φ b)):∀(cs:List α)(x:Vec),(∀c∈cs,S c)→φ (img m cs x e)=img n (cs.map φ) x f
 | [],_,_=>by simp[img,h1]
 |c::cs,[],_=>by simp[img,h1]
 |c::cs,x::xs,hc=>by
  have es:S c:=hc c (by simp);have gK:∀c∈cs,S c:=by grind
  have key:∀k,φ (pw m e c k)=pw n f (φ c) k:=by
   intro k
   induction k with
   |zero=>grind[pw,iter]
   |succ k ih=>
    grind[pw,vJ,uM]
  rw[tV h es gK,Jg,tV h' (gF c es) (by simp_all),hm _ _ (uM h es _) (zDW h _ _ gK h.ein),key,zLz h h' φ gF h1 hm cs xs gK]
end
theorem xR:∀{P:Pcp},Ok P→V P (zeros P.length)
 | [],_=>rfl
 |l::P,h=>by simp only[Ok]at h;simp only[Jw,zeros,Kv,V];exact⟨by omega,xR h.2.2.2.2⟩
theorem yU:∀{P:Pcp},Ok P→ ∀{x y:Vec},V P x→V P y→V P (mul P x y)
 | [],_,_,_,hx,hy=>by rfl
 |l::P,h,[],_,hx,_=>by grind[V]
 |l::P,h,_::_,[],_,hy=>by grind[V]
 |l::P,h,a::x,b::y,hx,hy=>by
  simp only[Ok]at h;simp only[V]at hx hy;have h1:∀v,V P v→V P (img (mul P) l.cs v (zeros P.length)):=fun v hv=>sD (yU h.2.2.2.2) l.cs v h.2.2.2.1 (xR h.2.2.2.2)
  have h2:=yU h.2.2.2.2 (wO h1 b.toNat hx.2) hy.2;simp only[mul];split
  ·exact⟨by omega,yU h.2.2.2.2 h.2.1 h2⟩
  ·exact⟨by omega,h2⟩
def Rel{α:Type}(m:α→α→α)(e:α):Pcp→List α→Prop
 | [],s=>s=[]
 |l::P,s=>match s with
  | []=>False
  |g::s=>pw m e g l.o.toNat=img m s l.w e∧(∀(k:Nat) c d,s[k]? =aB c→l.cs[k]? =aB d→m c g=m g (img m s d e))∧Rel m e P s
section
variable {α:Type}{S:α→Prop}{m:α→α→α}{e:α}
theorem zWh(h:Mon S m e):∀(P:Pcp)(s:List α),Ok P→(∀g∈s,S g)→Rel m e P s→ ∀x y,V P x→V P y→img m s (mul P x y) e=m (img m s x e) (img m s y e)
 | [],s,_,_,hr,x,y,hx,hy=>by simp only[Rel]at hr;subst hr;simp[img,h.onel h.ein]
 |l::P,[],_,_,hr,_,_,_,_=>by grind[Rel]
 |l::P,g::s,_,_,_,[],_,hx,_=>by grind[V]
 |l::P,g::s,_,_,_,_::_,[],_,hy=>by grind[V]
 |l::P,g::s,hk,hs,hr,a::x,b::y,hx,hy=>by
  simp only[Ok]at hk;simp only[Rel]at hr;simp only[V]at hx hy;obtain⟨ho,hw,gC,gK,bq⟩:=hk;obtain⟨gV,gz,eB⟩:=hr;have hg:S g:=hs g (by simp);have co:∀c∈s,S c:=by grind
  have gc:s.length=P.length:=by
   clear gV gz hx hy hw gC gK hs co
   induction P generalizing s with
   |nil=>grind[Rel]
   |cons l P ih=>
    cases s with
    |nil=>grind[Rel]
    |cons c s=>grind[Rel,Ok]
  have ih:=zWh h P s bq co eB;have hφ:∀v,S (img m s v e):=fun v=>zDW h s v co h.ein
  have hmP:∀{a b},V P a→V P b→V P (mul P a b):=yU bq;have mb:∀v,V P v→V P (img (mul P) l.cs v (zeros P.length)):=fun v hv=>sD hmP l.cs v gK (xR bq)
  have hσ:∀v,V P v→m (img m s v e) g=m g (img m s (img (mul P) l.cs v (zeros P.length)) e):=by
   intro v hv;have key:∀(cs:List Vec)(v:Vec)(acc:Vec),(∀c∈cs,V P c)→V P acc→img m s (img (mul P) cs v acc) e=img m (cs.map fun c=>img m s c e) v (img m s acc e):=by
    intro cs
    induction cs with
    |nil=>grind[img]
    |cons c cs ihc=>
     intro v acc hc hacc;cases v with
     |nil=>simp[img]
     |cons z v=>
      have es:V P c:=hc c (by simp);have it:∀k acc,V P acc→img m s (iter k (fun v=>mul P v c) acc) e=iter k (fun v=>m v (img m s c e)) (img m s acc e):=by
       intro k
       induction k with
       |zero=>intro acc _;rfl
       |succ k ihk=>
        simp_all[iter]
      simp only[img,Jg];rw[ihc v _ (by simp_all) (wO (by grind) _ hacc),it _ _ hacc]
   rw[key l.cs v (zeros P.length) gK (xR bq),zBb];refine zFD h hg s _ v co (by simp_all) (by grind) ?_;intro k c d hc hd;simp only[Jm,K1]at hd;obtain⟨d',cG,rfl⟩:=hd
   grind
  have hσk:∀k v,V P v→m (img m s v e) (pw m e g k)=m (pw m e g k) (img m s (iter k (fun v=>img (mul P) l.cs v (zeros P.length)) v) e):=by
   intro k
   induction k with
   |zero=>intro v _;simp[pw,iter,h.onel (hφ v),h.oner (hφ v)]
   |succ k ihk=>
    intro v hv;rw[zOo h hg,←h.assoc (hφ v) hg (uM h hg k),hσ v hv,h.assoc hg (hφ _) (uM h hg k),ihk _ (mb v hv),←h.assoc hg (uM h hg k) (hφ _)];rfl
  have eE:=uM h hg a.toNat;have pS:=uM h hg b.toNat;have eg:V P (iter b.toNat (fun v=>img (mul P) l.cs v (zeros P.length)) x):=wO mb _ hx.2;have mG:m (img m (g::s) (a::x) e) (img m (g::s) (b::y) e)=m (pw m e g (a.toNat+b.toNat)) (img m s (mul P (iter b.toNat (fun v=>img (mul P) l.cs v (zeros P.length)) x) y) e):=by rw[tV h hg co,tV h hg co,h.assoc eE (hφ x) (h.cl pS (hφ y)),←h.assoc (hφ x) pS (hφ y),hσk _ _ hx.2,h.assoc pS (hφ _) (hφ y),←ih _ _ eg hy.2,←h.assoc eE pS (hφ _),zFC h hg]
  rw[mG];simp only[mul];split
  ·rename_i hge
   rw[tV h hg co,ih _ _ hw (hmP eg hy.2),←gV,←h.assoc (uM h hg _) (uM h hg _) (hφ _),←zFC h hg]
   congr 2
   omega
  ·rw[tV h hg co]
   congr 2
   omega
end
def xL(n j:Nat):Vec:=(zeros n).set j 1
def sig(P:Pcp)(l:Lvl)(v:Vec):Vec:=img (mul P) l.cs v (zeros P.length)
def xX:Pcp→Prop
 | []=>True
 |l::P=>xX P∧Rel (mul P) (zeros P.length) P l.cs∧sig P l l.w=l.w∧ ∀j,j<P.length→mul P l.w (iter l.o.toNat (sig P l) (xL P.length j))=mul P (xL P.length j) l.w
theorem zGQ(n:Nat):xL (n+1) 0=1::zeros n:=rfl
theorem zMx(n j:Nat):xL (n+1) (j+1)=0::xL n j:=rfl
def yZ(n:Nat):List Vec:=(Jn n).map (xL n)
theorem zJL(n:Nat):yZ (n+1)=(1::zeros n)::(yZ n).map (0::·):=by
 simp only[yZ,Hm,Jg,Gl,zGQ]
 congr 1
theorem zBP:∀{P:Pcp},Ok P→ ∀{j:Nat},j<P.length→V P (xL P.length j)
 | [],_,_,hj=>by simp at hj
 |l::P,h,0,_=>by grind[Ok,zGQ,V,xR]
 |l::P,h,j+1,hj=>by simp only[Ok]at h;rw[Jw,zMx];simp only[V];exact⟨by omega,zBP h.2.2.2.2 (by grind)⟩
theorem zBQ{l:Lvl}{P:Pcp}(h:Ok (l::P)){v:Vec}(_hv:V P v):V P (sig P l v):=by simp only[Ok]at h;exact sD (yU h.2.2.2.2) l.cs v h.2.2.2.1 (xR h.2.2.2.2)
theorem yJ(l:Lvl)(P:Pcp)(a b:Int)(x y:Vec):mul (l::P) (a::x) (b::y)=if a+b≥l.o then(a+b-l.o)::mul P l.w (mul P (iter b.toNat (sig P l) x) y)else(a+b)::mul P (iter b.toNat (sig P l) x) y:=rfl
theorem zMy{n k:Nat}{c:Vec}(h:(yZ n)[k]? =aB c):k<n∧c=xL n k:=by
 simp only[yZ,Jm,K1]at h
 grind
theorem normal:∀(P:Pcp),Ok P→(∀Q,Q<:+P→Mon (V Q) (mul Q) (zeros Q.length))→ ∀x,V P x→img (mul P) (yZ P.length) x (zeros P.length)=x
 | [],_,_,x,hx=>by grind[V,img,zeros]
 |l::P,_,_,[],hx=>by grind[V]
 |l::P,h,hM,a::x,hx=>by
  have hMl:=hM (l::P) (List.suffix_refl _);have hMP:=hM P (by simp);have h':=h;simp only[Ok]at h;simp only[V]at hx;rw[Jw,zJL];have hz:V P (zeros P.length):=xR h.2.2.2.2;have bg:V (l::P) (1::zeros P.length):=by grind[V]
  have eJ:∀c∈(yZ P.length).map (0::·),V (l::P) c:=by
   intro c hc;simp only[yZ,Gl,Jd,Jq]at hc;obtain⟨j,hj,rfl⟩:=hc;simp only[Function.comp,V]
   grind[zBP]
  have cf:V (l::P) (zeros (P.length+1)):=by grind[xR]
  rw[show zeros (P.length+1)=zeros (l::P).length from rfl];rw[tV hMl bg eJ];have sz:∀k:Nat,iter k (sig P l) (zeros P.length)=zeros P.length:=by
   intro k
   induction k with
   |zero=>rfl
   |succ k ih=>grind[iter,sig,zBb]
  have h1:∀k:Nat,(k:Int)<l.o→pw (mul (l::P)) (zeros (l::P).length) (1::zeros P.length) k=(k:Int)::zeros P.length:=by
   intro k
   induction k with
   |zero=>intro _;rfl
   |succ k ih=>
    intro hk;rw[pw,vJ];show mul (l::P) (pw (mul (l::P)) (zeros (l::P).length) (1::zeros P.length) k) (1::zeros P.length)=_;rw[ih (by omega),yJ,if_neg (by omega)];rw[sz,hMP.onel hz];rfl
  have h2:∀(cs:List Vec)(y acc:Vec),(∀c∈cs,V P c)→V P acc→img (mul (l::P)) (cs.map (0::·)) y (0::acc)=0::img (mul P) cs y acc:=by
   intro cs
   induction cs with
   |nil=>grind[img]
   |cons c cs ih=>
    intro y acc hc hacc;cases y with
    |nil=>simp[img]
    |cons z y=>
     have es:V P c:=hc c (by simp);have it:∀(k:Nat)(acc:Vec),V P acc→iter k (fun v=>mul (l::P) v (0::c)) (0::acc)=0::iter k (fun v=>mul P v c) acc:=by
      intro k
      induction k with
      |zero=>intro _ _;rfl
      |succ k ihk=>
       intro acc hacc;simp only[iter];rw[yJ,if_neg (by omega)];exact ihk _ (yU h.2.2.2.2 hacc es)
     simp only[Jg,img];rw[it _ _ hacc,ih _ _ (by grind) (wO (by grind[yU]) _ hacc)]
  have fP:∀c∈yZ P.length,V P c:=by
   intro c hc;simp only[yZ,Jd,Jq]at hc;obtain⟨j,hj,rfl⟩:=hc
   grind[zBP]
  rw[h1 a.toNat (by omega),show zeros (l::P).length=0::zeros P.length from rfl,h2 _ _ _ fP hz,normal P h.2.2.2.2 (by grind) x hx.2,yJ,if_neg (by omega)];simp only[H8,iter];rw[hMP.onel hx.2]
  grind
theorem zL0:∀(P:Pcp),Ok P→xX P→Grp (V P) (mul P) (zeros P.length)
 | [],_,_=>by
  refine⟨⟨fun _ _=>rfl,rfl,fun _ _ _=>rfl,?_,?_⟩,fun ha=>⟨[],rfl,rfl⟩⟩<;>
  ·intro a ha
   simp only[V]at ha;subst ha;rfl
 |l::P,h,hc=>by
  have h':=h;simp only[Ok]at h;simp only[xX]at hc;obtain⟨ho,hw,gC,gK,hP⟩:=h;obtain⟨ak,cZ,mN,mL⟩:=hc;have N:=zL0 P hP ak;have hM:∀Q,Q<:+P→Mon (V Q) (mul Q) (zeros Q.length):=by
   intro Q hQ;obtain⟨t,ht⟩:=hQ;have:Ok Q∧xX Q:=by
    clear N hw gC gK cZ mN mL h'
    induction t generalizing P with
    |nil=>grind
    |cons a t ih=>
     simp at ht;subst ht;simp only[Ok]at hP;simp only[xX]at ak
     grind
   have gP:SizeOf.sizeOf Q≤SizeOf.sizeOf P:=by
    rw[←ht]
    clear N hw gC gK cZ mN mL h' hP ak ht this
    induction t with
    |nil=>simp
    |cons a t ih=>grind
   exact(zL0 Q this.1 this.2).toMon
  have hz:V P (zeros P.length):=xR hP;have σin:∀v,V P v→V P (sig P l v):=by grind[zBQ]
  have σhom:∀x y,V P x→V P y→sig P l (mul P x y)=mul P (sig P l x) (sig P l y):=fun x y hx hy=>zWh N.toMon P l.cs hP gK cZ x y hx hy
  have σz:sig P l (zeros P.length)=zeros P.length:=zBb _ _ _ _;have itin:∀(k:Nat) v,V P v→V P (iter k (sig P l) v):=fun k v hv=>wO σin k hv
  have ithom:∀(k:Nat) x y,V P x→V P y→iter k (sig P l) (mul P x y)=mul P (iter k (sig P l) x) (iter k (sig P l) y):=by
   intro k
   induction k with
   |zero=>intro _ _ _ _;rfl
   |succ k ih=>simp_all[iter]
  have itz:∀k:Nat,iter k (sig P l) (zeros P.length)=zeros P.length:=by
   intro k
   induction k with
   |zero=>rfl
   |succ k ih=>grind[iter]
  have itw:∀k:Nat,iter k (sig P l) l.w=l.w:=by
   intro k
   induction k with
   |zero=>rfl
   |succ k ih=>grind[iter]
  have fP:∀c∈yZ P.length,V P c:=by
   intro c hc;simp only[yZ,Jd,Jq]at hc;obtain⟨j,hj,rfl⟩:=hc
   grind[zBP]
  have inner:∀x,V P x→mul P x l.w=mul P l.w (iter l.o.toNat (sig P l) x):=by
   intro x hx;have hnf:=normal P hP hM x hx;have ph:=zLz N.toMon N.toMon (iter l.o.toNat (sig P l)) (by grind) (itz _) (by grind) (yZ P.length) x fP;rw[←hnf,ph];refine zFD N.toMon hw _ _ x fP (by simp_all) (by simp) ?_;intro k c d hc hd;rw[Jm,K1]at hd;obtain⟨c',ca,rfl⟩:=hd;rw[hc]at ca;simp at ca;subst ca;obtain⟨hk,rfl⟩:=zMy hc
   grind
  have e:∀(x y z:Vec)(b c:Int),V P x→V P y→V P z→0≤b→0≤c→
    mul P (iter c.toNat (sig P l) (mul P (iter b.toNat (sig P l) x) y)) z=mul P (iter (b+c).toNat (sig P l) x) (mul P (iter c.toNat (sig P l) y) z)∧
    mul P (iter c.toNat (sig P l) (mul P l.w (mul P (iter b.toNat (sig P l) x) y))) z=mul P l.w (mul P (iter (b+c).toNat (sig P l) x) (mul P (iter c.toNat (sig P l) y) z))∧
    (l.o≤b+c→mul P (iter (b+c-l.o).toNat (sig P l) x) (mul P l.w (mul P (iter c.toNat (sig P l) y) z))=mul P l.w (mul P (iter (b+c).toNat (sig P l) x) (mul P (iter c.toNat (sig P l) y) z))):=by
   intro x y z b c hx hy hz hb bv;have am:=itin b.toNat x hx;have br:=itin c.toNat y hy;have hbc:iter c.toNat (sig P l) (iter b.toNat (sig P l) x)=iter (b+c).toNat (sig P l) x:=by rw[←zDu];congr 1;omega
   have ap:=itin (b+c).toNat x hx;have e1:mul P (iter c.toNat (sig P l) (mul P (iter b.toNat (sig P l) x) y)) z=mul P (iter (b+c).toNat (sig P l) x) (mul P (iter c.toNat (sig P l) y) z):=by rw[ithom _ _ _ am hy,hbc,N.assoc ap br hz]
   refine⟨e1,?_,?_⟩
   ·rw[ithom _ _ _ hw (N.cl am hy),itw,N.assoc hw (itin _ _ (N.cl am hy)) hz,e1]
   ·intro hge
    have mQ:=N.cl br hz;rw[←N.assoc (itin _ x hx) hw mQ,inner _ (itin _ x hx),←zDu,N.assoc hw (itin _ x hx) mQ]
    congr 3
    omega
  refine⟨⟨by grind[yU],xR h',?_,?_,?_⟩,?_⟩
  ·intro A B C hA hB hC
   match A,B,C,hA,hB,hC with
   |a::x,b::y,c::z,hA,hB,hC=>
    simp only[V]at hA hB hC;obtain⟨e1,e2,e3⟩:=e x y z b c hA.2 hB.2 hC.2 hB.1.1 hC.1.1
    by_cases c1:a+b≥l.o<;>by_cases c2:b+c≥l.o
    ·rw[yJ,if_pos c1,yJ l P b c,if_pos c2,yJ,yJ,e2,e3 c2]
     grind
    ·rw[yJ,if_pos c1,yJ l P b c,if_neg c2,yJ,yJ,e2,if_neg (by omega),if_pos (by omega)]
     grind
    ·rw[yJ,if_neg c1,yJ l P b c,if_pos c2,yJ,yJ,e1,e3 c2,if_pos (by omega),if_neg (by omega)]
     grind
    ·rw[yJ,if_neg c1,yJ l P b c,if_neg c2,yJ,yJ,e1]
     grind
  ·intro A hA
   match A,hA with
   |a::x,hA=>
    simp only[V]at hA;show mul (l::P) (0::zeros P.length) (a::x)=_;rw[yJ,if_neg (by omega),itz,N.onel hA.2,Lw]
  ·intro A hA
   match A,hA with
   |a::x,hA=>
    simp only[V]at hA;show mul (l::P) (a::x) (0::zeros P.length)=_;rw[yJ,if_neg (by omega)];simp only[H8,iter];rw[N.oner hA.2,Ho]
  ·intro A hA
   match A,hA with
   |a::x,hA=>
    simp only[V]at hA
    by_cases ha:a=0
    ·obtain⟨y,hy,h1⟩:=N.inv hA.2
     refine⟨0::y,by simp only[V];grind,?_⟩;rw[yJ,if_neg (by omega)];simp only[H8,iter];rw[h1,ha];rfl
    ·have md:=itin (l.o-a).toNat x hA.2
     obtain⟨y,hy,h1⟩:=N.inv (N.cl hw md);refine⟨(l.o-a)::y,by simp only[V];grind,?_⟩;rw[yJ,if_pos (by omega),←N.assoc hw md hy,h1,show a+(l.o-a)-l.o=0 by omega];rfl
termination_by P=>P
end Go.Pc

namespace Go.Pc
end Go.Pc

namespace Go.Pc
end Go.Pc

namespace Go.Pc
end Go.Pc

namespace Go.Pc
end Go.Pc

namespace Go.Pc
end Go.Pc

namespace Go.Pc
end Go.Pc

namespace Go.Pc
section
variable {A:Type}
end
end Go.Pc

namespace Go.Pc
end Go.Pc

namespace Go.Pc
end Go.Pc

namespace Go.Pc
end Go.Pc

namespace Go.Pl
open Go Go.Ab
theorem bs{α β:Type}(x:α)(f:α→Option β):(aB x).bind f=f x:=by simp only[Option.bind_some]
theorem zJ{α:Type}(x y:α):cond aD x y=x:=by simp only[cond_true]
theorem zK{α:Type}(x y:α):cond aE x y=y:=by simp only[cond_false]
theorem zD{n:Int}(h1:-9223372036854775808≤n)(h2:n≤9223372036854775807):rng n=aB n:=by unfold rng;rw[if_pos];simp only[inR,J3,decide_eq_true_eq];omega
theorem tI{α:Type}(xs:List α)(i:Nat):ixO xs (i:Int)=xs[i]?:=by unfold ixO;rw[if_pos (by omega)];simp
theorem zAg{α:Type}{xs:List α}{i:Nat}(h:i<xs.length):ixO xs (i:Int)=aB xs[i]:=by rw[tI];exact J5 h
theorem yX{n:Nat}(h:n≤68719476736):zU (n:Int)=aB n:=by unfold zU;rw[if_pos (by omega)];simp
theorem zX{α:Type}{xs ys:List α}(h:xs.length+ys.length≤68719476736):yD xs ys=aB (xs++ys):=by unfold yD;rw[if_pos h]
theorem zP{σ ρ:Type}{body:σ→Option (σ⊕ρ)}{r:ρ}(S:Nat→σ)(n:Nat)(h:∀i,i<n→body (S i)=aB (.inl (S (i+1))))(he:body (S n)=aB (.inr r)):zC body (S 0)=aB r:=by
 have key:∀k i,i+k=n→zC body (S i)=aB r:=by
  intro k
  induction k with
  |zero=>intro i hi;rw[xG,show i=n from by omega,he]
  |succ k ih=>intro i hi;rw[xG,h i (by omega)];exact ih (i+1) (by omega)
 exact key n 0 (by omega)
theorem uS{σ ρ:Type}{body:σ→Option (σ⊕ρ)}{Q:ρ→Prop}(I:Nat→σ→Prop)(n:Nat)(h:∀i s,i<n→I i s→(∃s',body s=aB (.inl s')∧I (i+1) s')∨ ∃r,body s=aB (.inr r)∧Q r)
  (he:∀s,I n s→ ∃r,body s=aB (.inr r)∧Q r){s:σ}(h0:I 0 s):∃r,zC body s=aB r∧Q r:=by
 have key:∀k i s,i+k=n→I i s→ ∃r,zC body s=aB r∧Q r:=by
  intro k
  induction k with
  |zero=>
   intro i s hi hs;obtain rfl:i=n:=by omega
   obtain⟨r,h1,h2⟩:=he s hs;exact⟨r,by rw[xG,h1],h2⟩
  |succ k ih=>
   intro i s hi hs;rcases h i s (by omega) hs with⟨s',h1,h2⟩|⟨r,h1,h2⟩
   ·rw[xG,h1];exact ih (i+1) s' (by omega) h2
   ·exact⟨r,by rw[xG,h1],h2⟩
 exact key n 0 s (by omega) h0
def zL1{ρ:Type}:Option ρ→Unit⊕ρ
 |none=>.inl ()
 |some r=>.inr r
theorem cs(i:Nat):(i:Int)+1=((i+1:Nat):Int):=by omega
theorem zMz{ρ:Type}{body:Int→Option (Int⊕(Unit⊕ρ))}(n:Nat)(t:Nat→Option ρ)(i0:Nat)(hn:i0≤n)
  (h:∀i,i0≤i→i<n→(∀j,i0≤j→j<i→t j=aC)→body (i:Int)=aB (match t i with|none=>.inl ((i+1:Nat):Int)|some r=>.inr (.inr r)))
  (he:(∀j,i0≤j→j<n→t j=aC)→body (n:Int)=aB (.inr (.inl ()))):
  zC body (i0:Int)=aB (zL1 ((Gw i0 (n-i0)).findSome? t)):=by
 have key:∀k i,i0≤i→i+k=n→(∀j,i0≤j→j<i→t j=aC)→zC body (i:Int)=aB (zL1 ((Gw i k).findSome? t)):=by
  intro k
  induction k with
  |zero=>
   intro i hi hk hp;obtain rfl:i=n:=by omega
   rw[xG,he hp];rfl
  |succ k ih=>
   intro i hi hk hp;rw[xG,h i hi (by omega) hp,Qi,Ul];cases ht:t i with
   |some r=>rfl
   |none=>
    simp only
    exact ih (i+1) (by omega) (by omega) fun j h1 h2=>by
     rcases K2 j i with h3|h3
     ·exact hp j h1 h3
     ·rw[show j=i from by omega];exact ht
 exact key (n-i0) i0 (Ji _) (by omega) fun j h1 h2=>by omega
theorem zOp{n:Nat}{b:Nat→Bool}:zL1 ((Gw 0 n).findSome? (fun i=>if b i then aC else aB aE))=if(Jn n).all b then .inl ()else .inr aE:=by
 have key:∀l:List Nat,zL1 (l.findSome? (fun i=>if b i then aC else aB aE))=if l.all b then .inl ()else .inr aE:=by
  intro l
  induction l with
  |nil=>rfl
  |cons x l ih=>
   rw[Ul,Ga];cases hb:b x
   ·rfl
   ·simpa using ih
 rw[key,List.range_eq_range']
theorem zM0{body:Int→Option (Int⊕(Unit⊕Bool))}(n:Nat)(b:Nat→Bool)
  (h:∀i,i<n→(∀j,j<i→b j=aD)→body (i:Int)=aB (if b i then .inl ((i+1:Nat):Int)else .inr (.inr aE)))
  (he:(∀j,j<n→b j=aD)→body (n:Int)=aB (.inr (.inl ()))):
  zC body 0=aB (if(Jn n).all b then .inl ()else .inr aE):=by
 have:=zMz (body:=body) n (fun i=>if b i then aC else aB aE) 0 (Kc _) (fun i _ hi hp=>by
  rw[h i hi fun j hj=>by
   have:=hp j (Kc _) hj;split at this
   ·assumption
   ·cases this]
  cases b i<;>rfl) (fun hp=>he fun j hj=>by
   have:=hp j (Kc _) hj;split at this
   ·assumption
   ·cases this)
 rw[Qk]at this;exact this.trans (congrArg aB (zOp (n:=n) (b:=b)))
theorem zQQ{α:Type}[BEq α]{t:α→α→Option Bool}{body:Int→Option (Int⊕(Unit⊕Bool))}{x y:List α}
  (hb:∀i,body i=cond (decide (i<(x.length:Int))) ((ixO x i).bind fun v1=>(ixO y i).bind fun v2=>(t v1 v2).bind fun r3=>cond (!r3) (aB (.inr (.inr aE))) ((rng (i+1)).bind fun v4=>aB (.inl v4))) (aB (.inr (.inl ()))))
  (hl:x.length≤68719476736)(mc:x.length=y.length)(ht:∀u∈x,∀v∈y,t u v=aB (u==v)):zC body 0=aB (if x==y then .inl ()else .inr aE):=by
 have h:=zM0 (body:=body) x.length (fun i=>match x[i]?,y[i]? with|some u,aB v=>u==v|_,_=>aD) (fun i hi _=>by
  have gQ:i<y.length:=by omega
  rw[hb];simp only[aG (show((i:Int))<(x.length:Int)from by omega),zJ];rw[zAg hi,zAg gQ];simp only[bs,ht _ (Kt hi) _ (Kt gQ),J5 hi,J5 gQ];cases x[i]==y[i]
  ·rfl
  ·simp only[J6,zK,if_true]
   rw[zD (by omega) (by omega),cs];rfl) (fun _=>by
  rw[hb];simp only[aF (show¬((x.length:Int))<(x.length:Int)from by omega),zK])
 rw[h]
 congr 2
 have key:∀(x y:List α),x.length=y.length→((Jn x.length).all (fun i=>match x[i]?,y[i]? with|some u,aB v=>u==v|_,_=>aD))=(x==y):=by
  intro x
  induction x with
  |nil=>intro y hy;cases y with|nil=>rfl|cons _ _=>simp at hy
  |cons u x ih=>
   intro y hy;cases y with
   |nil=>simp at hy
   |cons v y=>
    rw[Jw,Hm,Ga,List.all_map];simp only[U1,Function.comp_def,Q7];rw[ih y (by simpa using hy)];rfl
 rw[key x y mc]
theorem zII{α:Type}[BEq α]{t:α→α→Option Bool}{f:Option Bool}{body:Int→Option (Int⊕(Unit⊕Bool))}{x y:List α}
  (hf:f=cond ((x.length:Int) != (y.length:Int)) (aB aE) ((zC body 0).bind fun r=>match r with|.inl _=>aB aD|.inr r=>aB r))
  (hb:∀i,body i=cond (decide (i<(x.length:Int))) ((ixO x i).bind fun v1=>(ixO y i).bind fun v2=>(t v1 v2).bind fun r3=>cond (!r3) (aB (.inr (.inr aE))) ((rng (i+1)).bind fun v4=>aB (.inl v4))) (aB (.inr (.inl ()))))
  (hl:x.length≤68719476736)(ht:∀u∈x,∀v∈y,t u v=aB (u==v)):f=aB (x==y):=by
 rw[hf]
 by_cases mc:x.length=y.length
 ·rw[zQQ hb hl mc ht]
  have:((x.length:Int) != (y.length:Int))=aE:=by simp[mc]
  rw[this];cases x==y<;>rfl
 ·have:((x.length:Int) != (y.length:Int))=aD:=by simp;omega
  rw[this];have h2:(x==y)=aE:=by
   have key:∀(x y:List α),x.length≠y.length→(x==y)=aE:=by
    intro x
    induction x with
    |nil=>intro y hy;cases y with|nil=>simp at hy|cons _ _=>rfl
    |cons u x ih=>
     intro y hy;cases y with
     |nil=>rfl
     |cons v y=>
      show(u==v&&x==y)=aE;rw[ih y (by simpa using hy),Bool.and_false]
   exact key x y mc
  rw[h2];rfl
end Go.Pl

namespace Go.Pl
open Go Go.Ab
def sm{α:Type}(c:α→Nat):List α→Nat
 | []=>0
 |x::xs=>c x+sm c xs
end Go.Pl

namespace Go.Pl
open Go Go.Ab Go.Wk
abbrev VL{α:Type}(V:α→Prop)(xs:List α):Prop:=xs.length≤maxLen∧ ∀x∈xs,V x
abbrev c1(x:List Int):Nat:=x.length
abbrev c2(x:List (List Int)):Nat:=x.length+sm c1 x
abbrev c3(x:List (List (List Int))):Nat:=x.length+sm c2 x
abbrev S1(x:List Int):Prop:=c1 x≤1048576
abbrev S2(x:List (List Int)):Prop:=c2 x≤1048576
abbrev S3(x:List (List (List Int))):Prop:=c3 x≤1048576
theorem S3.len{x:List (List (List Int))}(h:S3 x):x.length≤1048576:=by grind
def zSL(x:SPr):Prop:=S1 x.zA∧S2 x.zF∧S3 x.zB
def zTR(x:zG):Prop:=S3 x.zE
end Go.Pl

namespace Go.Pl
open Go Go.Ab Go.Wk
def IsB(o:Option Bool)(P:Prop):Prop:=(o=aB aD∧P)∨(o=aB aE∧ ¬P)
theorem IsB.iff{o:Option Bool}{P Q:Prop}(h:IsB o P)(hpq:P↔Q):IsB o Q:=by grind
theorem IsB.of_bool{b:Bool}{P:Prop}(h:b=aD↔P):IsB (aB b) P:=by
 cases b
 ·exact .inr (by grind)
 ·exact .inl ⟨rfl,h.1 rfl⟩
theorem chk{ρ:Type}{body:Int→Option (Int⊕(Unit⊕ρ))}(n i0:Nat)(hn:i0≤n)(P:Nat→Prop)(bad:Nat→ρ)
  (h:∀i,i0≤i→i<n→(∀j,i0≤j→j<i→P j)→(body (i:Int)=aB (.inl ((i+1:Nat):Int))∧P i)∨(body (i:Int)=aB (.inr (.inr (bad i)))∧ ¬P i))
  (he:body (n:Int)=aB (.inr (.inl ()))):
  (zC body (i0:Int)=aB (.inl ())∧ ∀j,i0≤j→j<n→P j)∨ ∃i,i0≤i∧i<n∧zC body (i0:Int)=aB (.inr (bad i))∧ ¬P i:=by
 have key:∀k i,i0≤i→i+k=n→(∀j,i0≤j→j<i→P j)→(zC body (i:Int)=aB (.inl ())∧ ∀j,i0≤j→j<n→P j)∨ ∃q,i0≤q∧q<n∧zC body (i:Int)=aB (.inr (bad q))∧ ¬P q:=by
  intro k
  induction k with
  |zero=>
   intro i hi hk hp;obtain rfl:i=n:=by omega
   grind[xG]
  |succ k ih=>
   intro i hi hk hp;rcases h i hi (by omega) hp with⟨h1,h2⟩|⟨h1,h2⟩
   ·have:=ih (i+1) (by omega) (by omega) (by grind)
    rw[xG,h1];exact this
   grind[xG]
 exact key (n-i0) i0 (Ji _) (by omega) fun j a b=>by omega
theorem tP{f:Option Bool}{body:Int→Option (Int⊕(Unit⊕Bool))}(n:Nat)(P:Nat→Prop)
  (hf:f=(zC body 0).bind fun r=>match r with|.inl _=>aB aD|.inr r=>aB r)
  (h:∀i,i<n→(∀j,j<i→P j)→(body (i:Int)=aB (.inl ((i+1:Nat):Int))∧P i)∨(body (i:Int)=aB (.inr (.inr aE))∧ ¬P i))
  (he:body (n:Int)=aB (.inr (.inl ()))):IsB f (∀i,i<n→P i):=by
 rcases chk n 0 (Kc _) P (fun _=>aE) (fun i _ hi hp=>h i hi fun j hj=>hp j (Kc _) hj) he with⟨h1,h2⟩|⟨i,_,hi,h1,h2⟩
 ·refine .inl ⟨?_,fun i hi=>h2 i (Kc _) hi⟩
  rw[hf];rw[show((0:Nat):Int)=0 from rfl]at h1;rw[h1,bs]
 ·refine .inr ⟨?_,fun hp=>h2 (hp i hi)⟩
  rw[hf];rw[show((0:Nat):Int)=0 from rfl]at h1;rw[h1,bs]
theorem wT{o:Option Bool}{P:Prop}{ρ:Type}{bad:ρ}{i:Nat}{g:Option (Int⊕(Unit⊕ρ))}(h:IsB o P)(hi:i<9223372036854775807)
  (hg:g=o.bind fun r=>cond (!r) (aB (.inr (.inr bad))) ((rng ((i:Int)+1)).bind fun v=>aB (.inl v))):(g=aB (.inl ((i+1:Nat):Int))∧P)∨(g=aB (.inr (.inr bad))∧ ¬P):=by
 subst hg;rcases h with⟨h1,h2⟩|⟨h1,h2⟩
 ·refine .inl ⟨?_,h2⟩
  rw[h1,bs,J6,zK,zD (by omega) (by omega),bs,cs]
 grind
theorem yS{i n:Nat}(h:i<n):decide ((i:Int)<(n:Int))=aD:=by grind
theorem uU{n:Nat}:decide ((n:Int)<(n:Int))=aE:=by simp
theorem uF(x a b:Int):IsB (zHP x a b) (a≤x∧x≤b):=by
 unfold zHP
 by_cases h:x≥a
 ·rw[aG h,zJ];grind[IsB.of_bool]
 ·rw[aF h,zK];exact .inr ⟨rfl,by omega⟩
theorem uZ(x a b:Int):IsB (zEG x a b) (a≤x∧x≤b):=uF x a b
def Prime(p:Int):Prop:=p=2∨p=3∨p=5∨p=7
theorem zBo(x:Int):IsB (zMO x) (Prime x):=by
 unfold zMO Prime
 by_cases h2:x=2
 ·subst h2;exact .inl ⟨rfl,.inl rfl⟩
 ·rw[show(x==2)=aE from by grind,zK]
  by_cases h3:x=3
  ·subst h3;exact .inl (by simp)
  ·rw[show(x==3)=aE from by grind,zK]
   by_cases h5:x=5
   ·subst h5;exact .inl (by simp)
   ·rw[show(x==5)=aE from by grind,zK]
    grind[IsB.of_bool]
theorem zFE(x:Int):IsB (zKs x) (Prime x):=zBo x
abbrev at0(v:List Int)(i:Nat):Int:=v.getD i 0
theorem yK{v:List Int}{i:Nat}(h:i<v.length):ixO v (i:Int)=aB (at0 v i):=by rw[zAg h,at0,J2,J5 h];rfl
def zWi(os v:List Int):Prop:=v.length=os.length∧ ∀i,i<v.length→0≤at0 v i∧at0 v i≤at0 os i-1
def Exp(os v:List Int)(k:Nat):Prop:=zWi os v∧ ∀i,i≤k→at0 v i=0
def Os(os:List Int):Prop:=os.length≤14∧ ∀i,i<os.length→Prime (at0 os i)
theorem Prime.pos{p:Int}(h:Prime p):2≤p∧p≤7:=by unfold Prime at h;omega
theorem zDX{x:SPr}{v:List Int}(ho:Os x.zA):IsB (zR3 x v) (zWi x.zA v):=by
 unfold zR3
 by_cases h:v.length=x.zA.length
 ·rw[show((v.length:Int) != (x.zA.length:Int))=aE from by simp[h],zK]
  have h6:=ho.1;refine(tP v.length (fun i=>0≤at0 v i∧at0 v i≤at0 x.zA i-1) rfl (fun i hi _=>?_) ?_).iff ⟨fun g=>⟨h,g⟩,fun g=>g.2⟩
  ·have hp:=(ho.2 i (by omega)).pos
   refine wT (uF _ _ _) (by omega) ?_;unfold zLX;rw[yS hi,zJ,yK hi,bs,yK (by omega),bs,zD (by omega) (by omega),bs]
  ·unfold zLX
   simp
 ·rw[show((v.length:Int) != (x.zA.length:Int))=aD from by simp;omega,zJ]
  exact .inr ⟨rfl,fun g=>h g.1⟩
theorem zIJ{v:List Int}(hl:v.length≤14):IsB (f_V v) (∀i,i<v.length→at0 v i=0):=by
 refine tP v.length (fun i=>at0 v i=0) rfl (fun i hi _=>?_) ?_
 ·refine wT (o:=aB (at0 v i==0)) (IsB.of_bool (by simp)) (by omega) ?_
  unfold zMP;rw[yS hi,zJ,yK hi,bs,bs];rfl
 ·unfold zMP
  simp
theorem zB5{x:SPr}{k:Nat}{v:List Int}(ho:Os x.zA)(hk:k<x.zA.length):IsB (zPh x k v) (Exp x.zA v k):=by
 have h6:=ho.1;unfold zPh;rcases zDX (v:=v) ho with⟨h1,h2⟩|⟨h1,h2⟩
 ·have hl:=h2.1
  rw[h1,bs,zJ,zD (by omega) (by omega),bs];have hs:zN v 0 ((k:Int)+1)=aB (v.take (k+1)):=by
   unfold zN
   grind
  rw[hs,bs];have hb:=zIJ (v:=v.take (k+1)) (by grind);have pq:(∀i,i<(v.take (k+1)).length→at0 (v.take (k+1)) i=0)↔Exp x.zA v k:=by
   have e:∀i,i≤k→at0 (v.take (k+1)) i=at0 v i:=by grind
   rw[K7,Qs (by omega)];exact⟨fun g=>⟨h2,by grind⟩,fun g i hi=>by rw[e i (by omega)];exact g.2 i (by omega)⟩
  grind
 ·rw[h1,bs,zK]
  exact .inr ⟨rfl,fun g=>h2 g.1⟩
theorem zBR{os v:List Int}{k:Nat}(ho:Os os)(hk:k<os.length):IsB (f_X os v k) (Exp os v k):=by
 have h6:=ho.1;unfold f_X
 by_cases h:v.length=os.length
 ·rw[show((v.length:Int) != (os.length:Int))=aE from by simp[h],zK]
  refine(tP v.length (fun i=>(0≤at0 v i∧at0 v i≤at0 os i-1)∧(i≤k→at0 v i=0)) rfl (fun i hi _=>?_) ?_).iff ⟨fun g=>⟨⟨h,by grind⟩,by grind⟩,fun g i hi=>⟨g.1.2 i hi,fun hk=>g.2 i hk⟩⟩
  ·have hp:=(ho.2 i (by omega)).pos
   unfold zOX;rw[yS hi,zJ,yK hi,bs,yK (by omega),bs,zD (by omega) (by omega),bs];rcases uZ (at0 v i) 0 (at0 os i-1)with⟨h1,h2⟩|⟨h1,h2⟩
   ·rw[h1,bs,J6,zK]
    by_cases h3:(i:Int)≤(k:Int)
    ·rw[aG h3,zJ,bs]
     by_cases h4:at0 v i=0
     ·rw[show(at0 v i != 0)=aE from by grind,zK,zD (by omega) (by omega),bs,cs]
      grind
     grind
    ·rw[aF h3,zK,zD (by omega) (by omega),bs,cs]
     grind
   grind
  ·unfold zOX
   simp
 ·rw[show((v.length:Int) != (os.length:Int))=aD from by simp;omega,zJ]
  exact .inr ⟨rfl,fun g=>h g.1.1⟩
end Go.Pl

namespace Go.Pl
open Go Go.Ab Go.Wk
theorem zXj{σ ρ:Type}{body:σ→Option (σ⊕(Unit⊕ρ))}(S:Nat→σ)(n i0:Nat)(hn:i0≤n)(P:Nat→Prop)(bad:Nat→ρ)
  (h:∀i,i0≤i→i<n→(∀j,i0≤j→j<i→P j)→(body (S i)=aB (.inl (S (i+1)))∧P i)∨(body (S i)=aB (.inr (.inr (bad i)))∧ ¬P i))
  (he:body (S n)=aB (.inr (.inl ()))):
  (zC body (S i0)=aB (.inl ())∧ ∀j,i0≤j→j<n→P j)∨ ∃i,i0≤i∧i<n∧zC body (S i0)=aB (.inr (bad i))∧ ¬P i:=by
 have key:∀k i,i0≤i→i+k=n→(∀j,i0≤j→j<i→P j)→(zC body (S i)=aB (.inl ())∧ ∀j,i0≤j→j<n→P j)∨ ∃q,i0≤q∧q<n∧zC body (S i)=aB (.inr (bad q))∧ ¬P q:=by
  intro k
  induction k with
  |zero=>
   intro i hi hk hp;obtain rfl:i=n:=by omega
   grind[xG]
  |succ k ih=>
   intro i hi hk hp;rcases h i hi (by omega) hp with⟨h1,h2⟩|⟨h1,h2⟩
   ·have:=ih (i+1) (by omega) (by omega) (by grind)
    rw[xG,h1];exact this
   grind[xG]
 exact key (n-i0) i0 (Ji _) (by omega) fun j a b=>by omega
theorem zAC{a b:Int}(h:a=b):(a != b)=aE:=by simp[h]
theorem zAx{a b:Int}(h:a≠b):(a != b)=aD:=by simp[h]
def pr(os:List Int):Nat→Int
 |0=>1
 |i+1=>pr os i*at0 os i
def cp(os:List Int):Nat→Int
 |0=>1
 |i+1=>if cp os i≤729 then cp os i*at0 os i else cp os i
theorem zBp{os:List Int}:∀{i:Nat},(∀j,j<i→Prime (at0 os j))→1≤pr os i
 |0,_=>by simp[pr]
 |i+1,h=>by have h1:=zBp (os:=os) (i:=i) (by grind);have h2:=(h i (by omega)).pos;simp only[pr];have:(1:Int)*1≤pr os i*at0 os i:=Kq h1 (by omega) (by omega) (by omega);omega
theorem zL2{os:List Int}{i:Nat}(h:∀j,j≤i→Prime (at0 os j)):pr os i≤pr os (i+1):=by have h1:=zBp (os:=os) (i:=i) (by grind);have h2:=(h i (Ji _)).pos;simp only[pr];have:pr os i*1≤pr os i*at0 os i:=H7 (by omega) (by omega);omega
theorem zH7{os:List Int}{n:Nat}(h:∀j,j<n→Prime (at0 os j)):∀k,k≤n→pr os (n-k)≤pr os n
 |0,_=>Int.le_refl _
 |k+1,hk=>by
  have h1:=zH7 h k (by omega);have h2:=zL2 (os:=os) (i:=n-(k+1)) (by grind)
  grind
theorem zL3{os:List Int}:∀{i:Nat},(∀j,j<i→Prime (at0 os j))→(cp os i=pr os i∧pr os i≤729∨729<cp os i∧cp os i≤5103∧729<pr os i)
 |0,_=>by simp[cp,pr]
 |i+1,h=>by
  have h0:∀j,j<i→Prime (at0 os j):=by grind
  have h2:=(h i (by omega)).pos;have h3:=zL2 (os:=os) (i:=i) (by grind);have bX:=zBp h0;simp only[cp];rcases zL3 h0 with⟨h1,h4⟩|⟨h1,h4,h5⟩
  ·rw[h1,if_pos h4]
   have h6:pr os i*at0 os i≤729*7:=Kq h4 h2.2 (by omega) (by omega);simp only[pr]at h3 ⊢
   grind
  omega
def zEz(x:SPr)(i:Nat):Prop:=Exp x.zA (x.zF.getD i []) i∧(x.zB.getD i []).length+i+1=x.zA.length∧ ∀j,j<(x.zB.getD i []).length→Exp x.zA ((x.zB.getD i []).getD j []) i
structure zCC (x:SPr):Prop where
 os:True∧ ∀i,i<x.zA.length→Prime (at0 x.zA i)
 pl:x.zF.length=x.zA.length
 cl:x.zB.length=x.zA.length
 tl:∀i,i<x.zA.length→zEz x i
structure Pres (x:SPr):Prop where
 os:Os x.zA
 pl:x.zF.length=x.zA.length
 cl:x.zB.length=x.zA.length
 tl:∀i,i<x.zA.length→zEz x i
theorem Pres.w{x:SPr}(h:Pres x):zCC x:=⟨⟨trivial,h.os.2⟩,h.pl,h.cl,h.tl⟩
structure sW (x:SPr):Prop extends Pres x where
 n6:x.zA.length≤6
 pr:pr x.zA x.zA.length≤729
theorem zT{α:Type}{v:List α}{i:Nat}(d:α)(h:i<v.length):ixO v (i:Int)=aB (v.getD i d):=by grind[zAg]
theorem zJM{x:SPr}(ho:Os x.zA)(hp:x.zF.length=x.zA.length)(hc:x.zB.length=x.zA.length){i:Nat}(hi:i<x.zA.length):
  (zK0 x i=aB (.inl ((i+1:Nat):Int))∧zEz x i)∨(zK0 x i=aB (.inr (.inr aE))∧ ¬zEz x i):=by
 have h6:=ho.1;unfold zK0;rw[yS hi,zJ,zT [] (by omega),bs];rcases zB5 (v:=x.zF.getD i []) ho hi with⟨h1,h2⟩|⟨h1,h2⟩
 ·rw[h1,bs,J6,zK,zT [] (by omega),bs,zD (by omega) (by omega),bs,zD (by omega) (by omega),bs]
  by_cases hl:(x.zB.getD i []).length+i+1=x.zA.length
  ·rw[zAC (by omega),zK,bs]
   rcases chk (body:=zPi x i (x.zB.getD i [])) (x.zB.getD i []).length 0 (Kc _) (fun j=>Exp x.zA ((x.zB.getD i []).getD j []) i) (fun _=>aE) (fun j _ hj _=>by
     refine wT (zB5 ho hi) (by omega) ?_;unfold zPi;rw[yS hj,zJ,zT [] hj,bs]) (by
     unfold zPi;simp)with⟨g1,g2⟩|⟨j,_,hj,g1,g2⟩
   ·rw[show((0:Nat):Int)=0 from rfl]at g1
    rw[g1,bs];simp only
    rw[zD (by omega) (by omega),bs,cs];exact .inl ⟨rfl,h2,hl,by grind⟩
   ·rw[show((0:Nat):Int)=0 from rfl]at g1
    rw[g1,bs];exact .inr ⟨rfl,fun g=>g2 (g.2.2 j hj)⟩
  ·rw[zAx (by omega),zJ]
   exact .inr ⟨rfl,fun g=>hl g.2.1⟩
 ·rw[h1,bs,Jx,zJ]
  exact .inr ⟨rfl,fun g=>h2 g.1⟩
theorem zJN{x:SPr}(ho:Os x.zA)(hp:x.zF.length=x.zA.length)(hc:x.zB.length=x.zA.length){i:Nat}(hi:i<x.zA.length):
  (zHO x i=aB (.inl ((i+1:Nat):Int))∧zEz x i)∨(zHO x i=aB (.inr (.inr aE))∧ ¬zEz x i):=by
 have h6:=ho.1;unfold zHO;rw[yS hi,zJ,zT [] (by omega),bs];rcases zBR (v:=x.zF.getD i []) ho hi with⟨h1,h2⟩|⟨h1,h2⟩
 ·rw[h1,bs,J6,zK,zT [] (by omega),bs,zD (by omega) (by omega),bs,zD (by omega) (by omega),bs]
  by_cases hl:(x.zB.getD i []).length+i+1=x.zA.length
  ·rw[zAC (by omega),zK]
   rcases chk (body:=zKt x i) (x.zB.getD i []).length 0 (Kc _) (fun j=>Exp x.zA ((x.zB.getD i []).getD j []) i) (fun _=>aE) (fun j _ hj _=>by
     refine wT (zBR ho hi) (by omega) ?_;unfold zKt;rw[zT [] (by omega),bs,yS hj,zJ,bs,zT [] hj,bs]) (by
     unfold zKt;rw[zT [] (by omega),bs,uU,zK])with⟨g1,g2⟩|⟨j,_,hj,g1,g2⟩
   ·rw[show((0:Nat):Int)=0 from rfl]at g1
    rw[g1,bs];simp only
    rw[zD (by omega) (by omega),bs,cs];exact .inl ⟨rfl,h2,hl,by grind⟩
   ·rw[show((0:Nat):Int)=0 from rfl]at g1
    rw[g1,bs];exact .inr ⟨rfl,fun g=>g2 (g.2.2 j hj)⟩
  ·rw[zAx (by omega),zJ]
   exact .inr ⟨rfl,fun g=>hl g.2.1⟩
 ·rw[h1,bs,Jx,zJ]
  exact .inr ⟨rfl,fun g=>h2 g.1⟩
theorem zIK{x:SPr}(h6:x.zA.length≤6):
  (zC (zKz x) (1,0)=aB (.inl ())∧Os x.zA∧pr x.zA x.zA.length≤729)∨(zC (zKz x) (1,0)=aB (.inr aE)∧ ¬(Os x.zA∧pr x.zA x.zA.length≤729)):=by
 rcases zXj (body:=zKz x) (fun i=>(pr x.zA i,(i:Int))) x.zA.length 0 (Kc _) (fun i=>Prime (at0 x.zA i)∧pr x.zA (i+1)≤729) (fun _=>aE) (fun i _ hi my=>by
   have hp:∀j,j<i→Prime (at0 x.zA j):=by grind
   have bX:=zBp hp;have fN:pr x.zA i≤729:=by
    cases i with
    |zero=>simp[pr]
    |succ i=>grind
   unfold zKz;rw[yS hi,zJ,yK hi,bs];rcases zBo (at0 x.zA i)with⟨h1,h2⟩|⟨h1,h2⟩
   ·have h3:=h2.pos
    have h4:pr x.zA i*at0 x.zA i≤729*7:=Kq fN h3.2 (by omega) (by omega);have h5:1*1≤pr x.zA i*at0 x.zA i:=Kq bX (by omega) (by omega) (by omega);simp only
    rw[h1,bs,J6,zK,zD (by omega) (by omega),bs]
    by_cases h7:pr x.zA i*at0 x.zA i> 729
    ·rw[aG h7,zJ]
     exact .inr ⟨rfl,by grind[pr]⟩
    ·rw[aF h7,zK,bs,zD (by omega) (by omega),bs,cs]
     exact .inl ⟨rfl,h2,by grind[pr]⟩
   grind) (by
   unfold zKz;simp)with⟨g1,g2⟩|⟨i,_,hi,g1,g2⟩
 ·refine .inl ⟨g1,⟨by omega,by grind⟩,?_⟩
  cases hn:x.zA.length with
  |zero=>simp[pr]
  |succ n=>grind
 ·refine .inr ⟨g1,fun⟨h1,h2⟩=>g2 ⟨h1.2 i hi,?_⟩⟩
  have:=zH7 (os:=x.zA) (n:=x.zA.length) h1.2 (x.zA.length-(i+1)) (by omega)
  grind
theorem zBq{os:List Int}(ho:Os os):f_I os=aB (cp os os.length):=by
 have h6:=ho.1;unfold f_I;rw[show(1,0)=(fun i=>(cp os i,(i:Int))) 0 from rfl,zP (body:=zML os) (r:=cp os os.length) (fun i=>(cp os i,(i:Int))) os.length (fun i hi=>by
  have hp:=(ho.2 i hi).pos;have hc:=zL3 (os:=os) (i:=i) fun j hj=>ho.2 j (by omega)
  have bX:=zBp (os:=os) (i:=i) fun j hj=>ho.2 j (by omega)
  unfold zML;rw[yS hi,zJ];simp only[cp]
  by_cases h:cp os i≤729
  ·have h4:cp os i*at0 os i≤729*7:=Kq h hp.2 (by omega) (by omega)
   have h5:1*1≤cp os i*at0 os i:=Kq (by omega) (by omega) (by omega) (by omega);rw[aG h,zJ,yK hi,bs,zD (by omega) (by omega),bs,zD (by omega) (by omega),bs,cs,if_pos h]
  ·rw[aF h,zK,zD (by omega) (by omega),bs,cs,if_neg h]) (by
  unfold zML;simp),bs]
theorem zAa{x:SPr}(hl:x.zA.length≤1048576):IsB (f_q x) (sW x):=by
 unfold f_q
 by_cases h6:x.zA.length≤6
 ·rw[aF (by omega),zK]
  by_cases hp:x.zF.length=x.zA.length
  ·rw[zAC (by omega),zK]
   by_cases hc:x.zB.length=x.zA.length
   ·rw[zAC (by omega),zK]
    rcases zIK h6 with⟨h1,h2,h3⟩|⟨h1,h2⟩
    ·rw[h1,bs]
     exact(tP (f:=(zC (zK0 x) 0).bind fun r=>match r with|.inl _=>aB aD|.inr r=>aB r) x.zA.length (zEz x) rfl (by grind[zJM]) (by unfold zK0;simp)).iff ⟨fun g=>⟨⟨h2,hp,hc,g⟩,h6,h3⟩,fun g=>g.tl⟩
    ·rw[h1,bs]
     exact .inr ⟨rfl,fun g=>h2 ⟨g.os,g.pr⟩⟩
   ·rw[zAx (by omega),zJ]
    exact .inr ⟨rfl,fun g=>hc g.cl⟩
  ·rw[zAx (by omega),zJ]
   exact .inr ⟨rfl,fun g=>hp g.pl⟩
 ·rw[aG (by omega),zJ]
  exact .inr ⟨rfl,fun g=>h6 g.n6⟩
theorem vU{x:SPr}(hl:x.zA.length≤1048576):IsB (f_h x) (sW x):=by
 unfold f_h
 by_cases h6:x.zA.length≤6
 ·rw[aF (by omega),zK]
  by_cases hp:x.zF.length=x.zA.length
  ·rw[zAC (by omega),zK]
   by_cases hc:x.zB.length=x.zA.length
   ·rw[zAC (by omega),zK]
    rcases chk (body:=zMM x) x.zA.length 0 (Kc _) (fun i=>Prime (at0 x.zA i)) (fun _=>aE) (fun i _ hi _=>by
      refine wT (zFE _) (by omega) ?_;unfold zMM;rw[yS hi,zJ,yK hi,bs]) (by
      unfold zMM;simp)with⟨g1,g2⟩|⟨i,_,hi,g1,g2⟩
    ·rw[show((0:Nat):Int)=0 from rfl]at g1
     have ho:Os x.zA:=⟨by omega,by grind⟩;have hcp:=zL3 (os:=x.zA) (i:=x.zA.length) ho.2;rw[g1,bs];simp only
     rw[zBq ho,bs]
     by_cases h7:cp x.zA x.zA.length> 729
     ·rw[aG h7,zJ]
      exact .inr ⟨rfl,fun g=>by have:=g.pr;omega⟩
     ·rw[aF h7,zK]
      exact(tP (f:=(zC (zHO x) 0).bind fun r=>match r with|.inl _=>aB aD|.inr r=>aB r) x.zA.length (zEz x) rfl (by grind[zJN]) (by unfold zHO;simp)).iff ⟨fun g=>⟨⟨ho,hp,hc,g⟩,h6,by omega⟩,fun g=>g.tl⟩
    ·rw[show((0:Nat):Int)=0 from rfl]at g1
     rw[g1,bs];exact .inr ⟨rfl,fun g=>g2 (g.os.2 i hi)⟩
   ·rw[zAx (by omega),zJ]
    exact .inr ⟨rfl,fun g=>hc g.cl⟩
  ·rw[zAx (by omega),zJ]
   exact .inr ⟨rfl,fun g=>hp g.pl⟩
 ·rw[aG (by omega),zJ]
  exact .inr ⟨rfl,fun g=>h6 g.n6⟩
end Go.Pl

namespace Go.Pl
open Go Go.Ab Go.Wk Go.Pc
def lvl(x:SPr)(i:Nat):Lvl:=⟨at0 x.zA i,(x.zF.getD i []).drop (i+1),(x.zB.getD i []).map (·.drop (i+1))⟩
def suf(x:SPr)(k:Nat):Pcp:=(Gw k (x.zA.length-k)).map (lvl x)
theorem yM(x:SPr)(k:Nat):(suf x k).length=x.zA.length-k:=by simp[suf]
theorem zZ{x:SPr}{k:Nat}(h:k<x.zA.length):suf x k=lvl x k::suf x (k+1):=by unfold suf;rw[show x.zA.length-k=(x.zA.length-(k+1))+1 from by omega,Qi,Jg]
theorem vN{x:SPr}{k:Nat}(h:x.zA.length≤k):suf x k=[]:=by unfold suf;simp_all
theorem zAl{os v:List Int}{k:Nat}(h:Exp os v k)(hk:k<os.length):v=zeros (k+1)++v.drop (k+1):=by
 have h1:=h.1.1;apply K8;intro i;rw[K4];simp only[zeros,Ju,Ka,Kw];split
 ·rename_i hi
  have h2:=h.2 i (by omega)
  grind
 grind
theorem zQR{x:SPr}:∀(d k:Nat)(v:List Int),k+d=x.zA.length→v.length=d→(∀i,i<d→0≤at0 v i∧at0 v i≤at0 x.zA (k+i)-1)→V (suf x k) v
 |0,k,v,hk,hv,_=>by rw[vN (by omega)];simpa[V]using hv
 |d+1,k,v,hk,hv,h=>by
  rw[zZ (by omega)]
  match v,hv with
  |a::v,hv=>
   have h0:=h 0 (by omega);simp only[at0,Ly,Uz]at h0;refine⟨⟨h0.1,by simp only[lvl,at0];omega⟩,zQR d (k+1) v (by omega) (by grind) fun i hi=>?_⟩
   grind
theorem zGR{x:SPr}{v:List Int}{k:Nat}(h:Exp x.zA v k)(hk:k<x.zA.length):V (suf x (k+1)) (v.drop (k+1)):=by
 have h1:=h.1.1;refine zQR (x.zA.length-(k+1)) (k+1) _ (by omega) (by grind) fun i hi=>?_
 have:=h.1.2 (k+1+i) (by omega)
 grind
theorem zCC.ok{x:SPr}(h:zCC x):∀(d k:Nat),k+d=x.zA.length→Pc.Ok (suf x k)
 |0,k,hk=>by rw[vN (by omega)];simp only[Pc.Ok]
 |d+1,k,hk=>by
  rw[zZ (by omega)];obtain⟨t1,t2,t3⟩:=h.tl k (by omega);refine⟨by simp only[lvl];have:=(h.os.2 k (by omega)).pos;omega,zGR t1 (by omega),?_,fun c hc=>?_,zCC.ok h d (k+1) (by omega)⟩
  ·grind[yM,lvl]
  ·simp only[lvl,Jd]at hc
   obtain⟨u,hu,rfl⟩:=hc;obtain⟨j,hj,rfl⟩:=Jv.1 hu
   grind[zGR]
theorem zCC.okAt{x:SPr}(h:zCC x){k:Nat}(hk:k≤x.zA.length):Pc.Ok (suf x k):=h.ok (x.zA.length-k) k (by omega)
theorem Pres.okAt{x:SPr}(h:Pres x){k:Nat}(hk:k≤x.zA.length):Pc.Ok (suf x k):=h.w.okAt hk
theorem zM(n:Nat):(zeros n).length=n:=by simp[zeros]
theorem zE0(k:Nat):zeros (k+1)=zeros k++[0]:=by simp[zeros,Ue]
theorem zCD{k:Nat}{a b:Int}{v:Vec}:(zeros k++a::v).set k b=zeros k++b::v:=by rw[U7 _ _ (by grind[zM]),zM,Ks,L6]
theorem zBS{k:Nat}{a:Int}{v:Vec}:ixO (zeros k++a::v) (k:Int)=aB a:=by rw[tI,Ja (by grind[zM]),zM,Ks];rfl
theorem zBr{k:Nat}{v:Vec}:zeros k++0::v=zeros (k+1)++v:=by rw[zE0,Je];rfl
theorem wI{v:List Int}(h:v.length≤1000000):f_m v=aB v:=by grind[f_m,zX]
end Go.Pl

namespace Go.Pl
open Go Go.Ab Go.Wk Go.Pc
theorem zBc{m:Vec→Vec→Vec}:∀(cs:List Vec)(x:Vec)(i:Nat)(acc:Vec),i<cs.length→i<x.length→
  img m (cs.take (i+1)) (x.take (i+1)) acc=iter (at0 x i).toNat (fun v=>m v (cs.getD i [])) (img m (cs.take i) (x.take i) acc)
 | [],_,_,_,h,_=>by simp at h
 |_::_,[],_,_,_,h=>by simp at h
 |c::cs,a::x,0,acc,_,_=>by rfl
 |c::cs,a::x,i+1,acc,h,h'=>by simp only[K6,img,at0,List.getD_cons_succ];exact zBc cs x i _ (by grind) (by grind)
theorem vS{α β:Type}{body:α×Int→Option ((α×Int)⊕α)}{S:β→Prop}(e:β→α)(g:β→β)(n:Int)(hn:0≤n)(hS:∀a,S a→S (g a))
  (h:∀a(i:Nat),S a→(i:Int)<n→body (e a,(i:Int))=aB (.inl (e (g a),((i+1:Nat):Int))))(he:∀a,S a→body (e a,n)=aB (.inr (e a))){a:β}(ha:S a):
  zC body (e a,0)=aB (e (iter n.toNat g a)):=by
 have eg:∀k,S (iter k g a):=fun k=>wO (S:=S) hS k ha
 exact zP (body:=body) (r:=e (iter n.toNat g a)) (fun i=>(e (iter i g a),(i:Int))) n.toNat (by grind[vJ]) (by grind)
theorem zIL{k i:Nat}{v:Vec}(h:i<v.length):ixO (zeros k++v) ((k+i:Nat):Int)=aB (at0 v i):=by rw[tI,Ja (by grind[zM]),zM,show k+i-k=i from by omega,J5 h,at0,J2,J5 h];rfl
theorem zCV{x:SPr}(ho:Os x.zA):∀(d k:Nat)(v:List Int),k+d=x.zA.length→V (suf x k) v→v.length=d∧ ∀i,i<d→0≤at0 v i∧at0 v i<at0 x.zA (k+i)∧at0 v i≤6
 |0,k,v,hk,hv=>by
  rw[vN (by omega)]at hv;simp only[V]at hv
  grind
 |d+1,k,v,hk,hv=>by
  rw[zZ (by omega)]at hv
  match v,hv with
  |a::v,hv=>
   obtain⟨h1,h2⟩:=zCV ho d (k+1) v (by omega) hv.2;refine⟨by simp[h1],fun i hi=>?_⟩;cases i with
   |zero=>
    have h3:=hv.1;simp only[lvl]at h3;have:=(ho.2 k (by omega)).pos
    grind
   |succ i=>
    grind
theorem zDx{x:SPr}(h:Pres x){k i:Nat}(hk:k<x.zA.length)(hi:i<x.zA.length-(k+1)):
  ∃c,ixO x.zB (k:Int)=aB (x.zB.getD k [])∧ixO (x.zB.getD k []) (i:Int)=aB (zeros (k+1)++c)∧V (suf x (k+1)) c∧(lvl x k).cs.getD i []=c:=by
 obtain⟨t1,t2,t3⟩:=h.tl k hk;have hc:=h.cl
 grind[zT,zGR,zAl,lvl]
def FAt(x:SPr)(k:Nat)(g:SPr→Int→List Int→List Int→Option (List Int)):Prop:=
 ∀a b,V (suf x k) a→V (suf x k) b→g x k (zeros k++a) (zeros k++b)=aB (zeros k++mul (suf x k) a b)
def FIm(x:SPr)(k:Nat)(g:SPr→Int→List Int→Option (List Int)):Prop:=
 ∀v,V (suf x (k+1)) v→g x k (zeros (k+1)++v)=aB (zeros (k+1)++sig (suf x (k+1)) (lvl x k) v)
theorem zJO{x:SPr}(h:Pres x){k:Nat}(hk:k<x.zA.length){g:SPr→Int→List Int→List Int→Option (List Int)}(hg:FAt x (k+1) g):FIm x k (b_d g):=by
 intro v hv;have h6:=h.os.1;have ok:=h.okAt (k:=k+1) (by omega);obtain⟨cP,bf⟩:=zCV h.os (x.zA.length-(k+1)) (k+1) v (by omega) hv;have gc:=yM x (k+1);have gC:(lvl x k).cs.length=x.zA.length-(k+1):=by have:=h.okAt (k:=k) (by omega);rw[zZ hk]at this;rw[this.2.2.1,gc]
 have gK:∀c∈(lvl x k).cs,V (suf x (k+1)) c:=by have:=h.okAt (k:=k) (by omega);rw[zZ hk]at this;exact this.2.2.2.1
 have hA:∀i,V (suf x (k+1)) (img (mul (suf x (k+1))) ((lvl x k).cs.take i) (v.take i) (zeros (suf x (k+1)).length)):=fun i=>
  sD (yU ok) _ _ (by grind) (xR ok)
 unfold b_d;rw[yX (by omega),bs,zD (by omega) (by omega),bs,cs];have hz:J1 x.zA.length (0:Int)=zeros (k+1)++zeros (suf x (k+1)).length:=by rw[gc];simp only[zeros,J9];congr 1;omega
 rw[hz];have:=zP (body:=zOZ g x k (zeros (k+1)++v)) (r:=zeros (k+1)++sig (suf x (k+1)) (lvl x k) v)
  (fun i=>(zeros (k+1)++img (mul (suf x (k+1))) ((lvl x k).cs.take i) (v.take i) (zeros (suf x (k+1)).length),((k+1+i:Nat):Int))) (x.zA.length-(k+1)) (fun i hi=>by
  have hr:=bf i hi;obtain⟨c,c1,c2,c3,c4⟩:=zDx h hk hi;unfold zOZ;rw[aG (by omega),zJ];rw[vS (S:=V (suf x (k+1))) (body:=zOY g x k (zeros (k+1)++v) (zeros (k+1)++img (mul (suf x (k+1))) ((lvl x k).cs.take i) (v.take i) (zeros (suf x (k+1)).length),((k+1+i:Nat):Int))) (fun u=>zeros (k+1)++u) (fun u=>mul (suf x (k+1)) u c) (at0 v i) hr.1 (by grind[yU]) (fun u q hu hq=>by
   unfold zOY;simp only
   rw[zIL (by omega),bs,aG hq,zJ,zD (by omega) (by omega),bs,c1,bs,zD (by omega) (by omega),bs,zD (by omega) (by omega),bs,
    show(((k+1+i:Nat):Int)-(k:Int)-1)=(i:Int)from by omega,c2,bs,cs,hg u c hu c3,bs,zD (by omega) (by omega),bs,cs]) (fun u hu=>by
   unfold zOY;simp only
   rw[zIL (by omega),bs,aF (by omega),zK]) (hA i),bs,zD (by omega) (by omega),bs,cs]
  rw[zBc _ _ _ _ (by omega) (by omega),c4];rfl) (by
  unfold zOZ;rw[aF (by omega),zK,Jk (by omega),Jk (by omega)];rfl)
 grind[img]
theorem zQS{x:SPr}(h:Pres x){k:Nat}(hk:k<x.zA.length){g:SPr→Int→List Int→List Int→Option (List Int)}{gi:SPr→Int→List Int→Option (List Int)}(hg:FAt x (k+1) g)(hi:FIm x k gi):FAt x k (b_a gi g):=by
 intro a b ha hb;have h6:=h.os.1;have hp:=(h.os.2 k hk).pos;have ok:=h.okAt (k:=k+1) (by omega);have ok0:=h.okAt (k:=k) (by omega);obtain⟨pD,har⟩:=zCV h.os (x.zA.length-k) k a (by omega) ha;obtain⟨cb,hbr⟩:=zCV h.os (x.zA.length-k) k b (by omega) hb;rw[zZ hk]at ha hb ok0;obtain⟨a0,a,rfl⟩:∃a0 a',a=a0::a':=by cases a with|nil=>grind|cons p q=>simp
 obtain⟨b0,b,rfl⟩:∃a0 a',b=a0::a':=by cases b with|nil=>grind|cons p q=>simp
 obtain⟨⟨a1,a2⟩,ha⟩:=ha;obtain⟨⟨b1,b2⟩,hb⟩:=hb;have fg:(lvl x k).o=at0 x.zA k:=rfl;rw[fg]at a2 b2;unfold b_a;rw[aF (by omega),zK,wI (by grind[zM]),bs,wI (by simp[zM]at cb ⊢;omega),bs,zBS,bs,zBS,bs,Jj,zCD,zCD,zBr,zBr];have ep:∀u,V (suf x (k+1)) u→V (suf x (k+1)) (sig (suf x (k+1)) (lvl x k) u):=by grind[zBQ]
 have eg:V (suf x (k+1)) (iter b0.toNat (sig (suf x (k+1)) (lvl x k)) a):=wO ep _ ha;rw[vS (S:=V (suf x (k+1))) (fun u=>zeros (k+1)++u) (sig (suf x (k+1)) (lvl x k)) b0 b1 ep (fun u q hu hq=>by
   unfold zRs;simp only
   rw[zBS,bs,aG hq,zJ,hi u hu,bs,zD (by omega) (by omega),bs,cs]) (fun u hu=>by
   unfold zRs;simp only
   rw[zBS,bs,aF (by omega),zK]) ha,bs,zD (by omega) (by omega),bs,cs,hg _ _ eg hb,bs,bs,bs,zD (by omega) (by omega),bs,yK hk,bs]
 have hm:=yU ok eg hb;have bn:=(zCV h.os (x.zA.length-(k+1)) (k+1) _ (by omega) hm).1;have own:∀u,V (suf x (k+1)) u→f_m (zeros (k+1)++u)=aB (zeros (k+1)++u):=fun u hu=>wI (by
  have:=(zCV h.os (x.zA.length-(k+1)) (k+1) _ (by omega) hu).1
  grind[zM])
 rw[zZ hk,yJ,fg]
 by_cases hge:a0+b0≥at0 x.zA k
 ·have t1:=(h.tl k hk).1
  have hw:=zGR t1 hk;have hwl:=h.pl;rw[aG hge,zJ,if_pos hge,bs,zD (by omega) (by omega),bs,bs,zT [] (by omega),bs,zAl t1 hk,hg _ _ hw hm,bs,own _ (yU ok hw hm),bs];rw[←zBr,zBS,bs,zCD];rfl
 ·rw[aF hge,zK,if_neg hge,own _ hm,bs,←zBr,zBS,bs,zCD]
theorem zDY{x:SPr}(h:Pres x):∀(d k:Nat),k+d=x.zA.length→(∀m,2*d+1≤m→FAt x k (zKv m))∧(1≤d→ ∀m,2*d≤m→FIm x k (zKu m))
 |0,k,hk=>by
  refine⟨fun m hm a b ha hb=>?_,fun h=>by omega⟩;have h6:=h.os.1;obtain⟨m,rfl⟩:∃m',m=m'+1:=⟨m-1,by omega⟩;show b_a _ _ x k _ _=_;unfold b_a;rw[aG (by omega),zJ,yX (by omega),bs,vN (by omega)]
  grind[mul,zeros]
 |d+1,k,hk=>by
  obtain⟨h1,h2⟩:=zDY h d (k+1) (by omega);have hI:∀m,2*(d+1)≤m→FIm x k (zKu m):=fun m hm=>by obtain⟨m,rfl⟩:∃m',m=m'+1:=⟨m-1,by omega⟩;exact zJO h (by omega) (h1 m (by omega))
  refine⟨fun m hm=>?_,fun _=>hI⟩;obtain⟨m,rfl⟩:∃m',m=m'+1:=⟨m-1,by omega⟩;exact zQS h (by omega) (h1 m (by omega)) (hI m (by omega))
theorem zL4{x:SPr}(h:Pres x){k:Nat}(hk:k≤x.zA.length):FAt x k f_a:=fun a b ha hb=>
 zAv (2*(x.zA.length-k)+1) fun m hm=>(zDY h (x.zA.length-k) k (by omega)).1 m hm a b ha hb
theorem zJP{x:SPr}(h:Pres x){k:Nat}(hk:k<x.zA.length):FIm x k f_d:=fun v hv=>
 zAv (2*(x.zA.length-k)) fun m hm=>(zDY h (x.zA.length-k) k (by omega)).2 (by omega) m hm v hv
end Go.Pl

namespace Go.Pl
open Go Go.Ab Go.Wk Go.Pc
theorem zBT:∀{P Q:Pcp},Q<:+P→xX P→xX Q
 | [],Q,h,_=>by grind
 |l::P,Q,h,hc=>by
  rcases Ud.1 h with rfl|h
  ·exact hc
  ·exact zBT h hc.1
theorem zGS:∀{P Q:Pcp},Q<:+P→Pc.Ok P→Pc.Ok Q
 | [],Q,h,_=>by grind
 |l::P,Q,h,hc=>by
  rcases Ud.1 h with rfl|h
  ·exact hc
  ·exact zGS h hc.2.2.2.2
theorem zJQ(x:SPr)(k:Nat):suf x (k+1)<:+suf x k:=by grind[zZ,vN]
theorem zDy{x:SPr}{k:Nat}(h:xX (suf x k)):∀i,xX (suf x (k+i))
 |0=>h
 |i+1=>zBT (zJQ x (k+i)) (zDy h i)
theorem zFF{x:SPr}(h:Pres x){k:Nat}(hk:k≤x.zA.length)(hc:xX (suf x k)):Grp (V (suf x k)) (mul (suf x k)) (zeros (suf x k).length):=zL0 _ (h.okAt hk) hc
theorem zEQ{x:SPr}:∀(i k:Nat)(v:Vec),k+i≤x.zA.length→V (suf x k) v→ ∃q v',v=q++v'∧q.length=i∧V (suf x (k+i)) v'∧
  ∀a b,V (suf x (k+i)) a→V (suf x (k+i)) b→mul (suf x k) (q++a) (zeros i++b)=q++mul (suf x (k+i)) a b
 |0,k,v,_,hv=>⟨[],v,rfl,rfl,hv,fun a b _ _=>rfl⟩
 |i+1,k,v,hk,hv=>by
  rw[zZ (by omega)]at hv
  match v,hv with
  |e::v,hv=>
   obtain⟨q,v',h1,h2,h3,h4⟩:=zEQ i (k+1) v (by omega) hv.2;rw[show k+1+i=k+(i+1)from by omega]at h3 h4;refine⟨e::q,v',by grind,by simp[h2],h3,fun a b ha hb=>?_⟩;have he:=hv.1;rw[zZ (by omega)];show mul (lvl x k::suf x (k+1)) (e::(q++a)) (0::(zeros i++b))=_;rw[yJ,Ho,if_neg (by omega)]
   grind[iter]
def FTV(x:SPr)(k:Nat)(g:SPr→List Int→List Int→Option (List Int)):Prop:=
 ∀p v u,p.length=k→V (suf x k) v→V (suf x k) u→g x (p++v) (zeros k++u)=aB (p++mul (suf x k) v u)
def FTG(x:SPr)(k:Nat)(g:SPr→List Int→Int→Option (List Int)):Prop:=
 ∀p v,p.length=k→V (suf x k) v→g x (p++v) (k:Int)=aB (p++mul (suf x k) v (1::zeros (x.zA.length-(k+1))))
theorem zGT{x:SPr}(h:Pres x){k:Nat}(hk:k<x.zA.length){g:SPr→List Int→List Int→Option (List Int)}(hg:FTV x (k+1) g){t:Vec}(ht:V (suf x (k+1)) t)
  {body1:List Int×Int→Int→List Int×Int→Option ((List Int×Int)⊕List Int)}{body2:List Int×Int→Option ((List Int×Int)⊕List Int)}
  (mW:∀s,body2 s=cond (decide (s.2<(t.length:Int))) ((ixO t s.2).bind fun v17=>(zC (body1 s v17) (s.1,0)).bind fun r=>(rng (s.2+1)).bind fun v=>aB (.inl (r,v))) (aB (.inr s.1)))
  (ar:∀s v q,body1 s v q=cond (decide (q.2<v)) ((ixO x.zB (k:Int)).bind fun cl=>(ixO cl s.2).bind fun c=>(g x q.1 c).bind fun r=>(rng (q.2+1)).bind fun w=>aB (.inl (r,w))) (aB (.inr q.1)))
  {p:Vec}(hp:p.length=k+1){u:Vec}(hu:V (suf x (k+1)) u):zC body2 (p++u,0)=aB (p++img (mul (suf x (k+1))) (lvl x k).cs t u):=by
 have h6:=h.os.1;have ok:=h.okAt (k:=k+1) (by omega);have ok0:=h.okAt (k:=k) (by omega);rw[zZ hk]at ok0;obtain⟨mn,mm⟩:=zCV h.os (x.zA.length-(k+1)) (k+1) t (by omega) ht;have gC:(lvl x k).cs.length=x.zA.length-(k+1):=by rw[ok0.2.2.1,yM]
 have hA:∀i,V (suf x (k+1)) (img (mul (suf x (k+1))) ((lvl x k).cs.take i) (t.take i) u):=fun i=>
  sD (yU ok) _ _ (fun c hc=>ok0.2.2.2.1 c (by grind)) hu
 have:=zP (body:=body2) (r:=p++img (mul (suf x (k+1))) (lvl x k).cs t u) (fun i=>(p++img (mul (suf x (k+1))) ((lvl x k).cs.take i) (t.take i) u,(i:Int))) t.length (fun i hi=>by
  have hr:=mm i (by omega);obtain⟨c,c1,c2,c3,c4⟩:=zDx h hk (i:=i) (by omega);rw[mW];simp only
  rw[yS hi,zJ,yK hi,bs];rw[vS (S:=V (suf x (k+1))) (fun u=>p++u) (fun u=>mul (suf x (k+1)) u c) (at0 t i) hr.1 (by grind[yU]) (fun u q hu hq=>by
   rw[ar];simp only
   rw[aG hq,zJ,c1,bs,c2,bs,hg p u c hp hu c3,bs,zD (by omega) (by omega),bs,cs]) (by grind) (hA i),bs,zD (by omega) (by omega),bs,cs]
  rw[zBc _ _ _ _ (by omega) (by omega),c4]) (by
  grind)
 grind[img]
theorem zSM{p v:Vec}{a:Int}{k:Nat}(hp:p.length=k):ixO (p++a::v) (k:Int)=aB a:=by rw[tI,Ja (by omega),hp,Ks];rfl
theorem p_set{p v:Vec}{a b:Int}{k:Nat}(hp:p.length=k):(p++a::v).set k b=p++b::v:=by simp_all
theorem zIM{x:SPr}(h:Pres x){k:Nat}(hk:k<x.zA.length)(hc:xX (suf x (k+1))){g:SPr→List Int→List Int→Option (List Int)}(hg:FTV x (k+1) g):FTG x k (b_b g):=by
 intro p v hp hv;have h6:=h.os.1;have G:=zFF h (k:=k+1) (by omega) hc;have ok:=h.okAt (k:=k+1) (by omega);have ok0:=h.okAt (k:=k) (by omega);obtain⟨cP,bf⟩:=zCV h.os (x.zA.length-k) k v (by omega) hv;rw[zZ hk]at hv ok0;obtain⟨e,t,rfl⟩:∃a0 a',v=a0::a':=by cases v with|nil=>grind|cons p q=>simp
 obtain⟨⟨e1,e2⟩,ht⟩:=hv;have fg:(lvl x k).o=at0 x.zA k:=rfl;rw[fg]at e2;have eu:=(h.os.2 k hk).pos;have mn:=(zCV h.os (x.zA.length-(k+1)) (k+1) t (by omega) ht).1;have fa:=yM x (k+1);unfold b_b;have hs:zN (p++e::t) ((k+1:Nat):Int) ((p++e::t).length:Int)=aB t:=by
  unfold zN;rw[if_pos (by grind)];have e3:(p++e::t).drop (k+1)=t:=by rw[Q4,Lr (by omega),hp,show k+1-k=1 from by omega];rfl
  grind[Jj]
 have pz:f_y t=aB t:=by grind[f_y,zX]
 rw[zD (by omega) (by omega),bs,cs,hs,bs,pz,bs];have hz:=zP (body:=zPj k t) (r:=(p++[e])++zeros t.length) (fun i=>((p++[e])++(zeros i++t.drop i),(i:Int))) t.length (fun i hi=>by
  have hl:((p++[e])++zeros i).length=k+1+i:=by grind[zM]
  unfold zPj;simp only
  rw[yS hi,zJ,zD (by omega) (by omega),bs,zD (by omega) (by omega),bs,show(k:Int)+1+(i:Int)=((k+1+i:Nat):Int)from by omega,tI,←Je,Ja (by omega),hl,Ks,
   Lh hi,U1,bs,zD (by omega) (by omega),bs,cs,Jj,U7 _ _ (by omega),hl,Ks,L6,zE0]
  simp) (by
  unfold zPj;simp)
 simp only[zeros,Hv,U5,Js,Je,Lu]at hz;rw[show((0:Nat):Int)=0 from rfl]at hz;rw[hz,bs,Jj,zSM hp,bs,zD (by omega) (by omega),bs,bs,p_set hp,zSM hp,bs,yK hk,bs];have bB:J1 t.length (0:Int)=zeros (suf x (k+1)).length:=by rw[fa,mn];rfl
 rw[zZ hk,yJ,fg];have gk:mul (suf x (k+1)) (iter (1:Int).toNat (sig (suf x (k+1)) (lvl x k)) t) (zeros (x.zA.length-(k+1)))=sig (suf x (k+1)) (lvl x k) t:=by rw[←fa];show mul _ (sig (suf x (k+1)) (lvl x k) t) _=_;exact G.oner (zBQ ok0 ht)
 rw[gk,bB]
 by_cases heq:e+1=at0 x.zA k
 ·have t1:=(h.tl k hk).1
  have hw:=zGR t1 hk;have hwl:=h.pl;have bj:(p++[(0:Int)]).length=k+1:=by simp[hp]
  rw[show(e+1==at0 x.zA k)=aD from by grind,zJ,if_pos (by omega),bs,zT [] (by omega),bs,p_set hp];have bA:p++0::zeros (suf x (k+1)).length=(p++[0])++zeros (suf x (k+1)).length:=by simp
  rw[bA,zAl t1 hk,hg _ _ _ bj G.ein hw,bs,G.onel hw];rw[zGT (body1:=zUr g x k) (body2:=zUs g x k t) h hk hg ht (fun _=>rfl) (fun _ _ _=>rfl) bj hw,bs];rw[zDw G.toMon _ _ ok0.2.2.2.1 hw,show e+1-at0 x.zA k=0 from by omega];simp only[Je,Lu];rfl
 ·have bj:(p++[e+1]).length=k+1:=by simp[hp]
  rw[show(e+1==at0 x.zA k)=aE from by grind,zK,if_neg (by omega)];have bA:p++(e+1)::zeros (suf x (k+1)).length=(p++[e+1])++zeros (suf x (k+1)).length:=by simp
  rw[bA,zGT (body1:=zUt g x k) (body2:=zUu g x k t) h hk hg ht (fun _=>rfl) (fun _ _ _=>rfl) bj G.ein,bs];simp only[Je,Lu];rfl
theorem zAh{n i:Nat}(h:i<n):xL n i=zeros i++1::zeros (n-(i+1)):=by
 have:zeros n=zeros i++0::zeros (n-(i+1)):=by
  simp only[zeros];rw[←Kv,J9]
  grind
 grind[xL,zCD]
theorem zDz(n:Nat):(yZ n).length=n:=by simp[yZ]
theorem zFG{n i:Nat}(h:i<n):(yZ n).getD i []=xL n i:=by simp[yZ,J2,h]
theorem zOq{x:SPr}(h:Pres x){k:Nat}(hk:k≤x.zA.length)(hc:xX (suf x k)){g:SPr→List Int→Int→Option (List Int)}(hg:∀j,k≤j→j<x.zA.length→FTG x j g):FTV x k (b_c g):=by
 intro p v u hp hv hu;have h6:=h.os.1;have G:=zFF h hk hc;have ok:=h.okAt hk;obtain⟨fQ,bC⟩:=zCV h.os (x.zA.length-k) k u (by omega) hu;have fa:=yM x k;have hV1:∀j,j≤x.zA.length→j<x.zA.length→V (suf x j) (1::zeros (x.zA.length-(j+1))):=fun j hj pm=>by rw[zZ pm];have:=(h.os.2 j pm).pos;refine⟨⟨by omega,by show 1<at0 x.zA j;omega⟩,?_⟩;rw[←yM];exact xR (h.okAt (by omega))
 have hUn:∀i,i<x.zA.length-k→V (suf x k) (xL (x.zA.length-k) i):=by grind[zBP]
 have hUs:∀c∈yZ (x.zA.length-k),V (suf x k) c:=fun c hc=>by
  simp only[yZ,Jd,Jq]at hc
  grind
 have hA:∀i,V (suf x k) (img (mul (suf x k)) ((yZ (x.zA.length-k)).take i) (u.take i) v):=fun i=>
  sD (yU ok) _ _ (by grind) hv
 have ab:∀i w,i<x.zA.length-k→V (suf x k) w→g x (p++w) ((k+i:Nat):Int)=aB (p++mul (suf x k) w (xL (x.zA.length-k) i)):=fun i w hi hw=>by obtain⟨q,w',h1,h2,h3,h4⟩:=zEQ i k w (by omega) hw;have h5:=hg (k+i) (by omega) (by omega) (p++q) w' (by grind) h3;rw[Je,←h1]at h5;rw[h5,zAh hi,h1,show x.zA.length-k-(i+1)=x.zA.length-(k+i+1)from by omega,h4 w' _ h3 (hV1 (k+i) (by omega) (by omega)),Je]
 unfold b_c;have mj:(zeros k++u).length=x.zA.length:=by grind[zM]
 have:=zP (body:=zPl g x (zeros k++u)) (r:=p++mul (suf x k) v u) (fun j=>(p++img (mul (suf x k)) ((yZ (x.zA.length-k)).take (j-k)) (u.take (j-k)) v,(j:Int))) x.zA.length (fun j hj=>by
  unfold zPl;simp only
  rw[mj,yS hj,zJ];rcases K2 j k with hjk|hjk
  ·have e0:ixO (zeros k++u) (j:Int)=aB 0:=by
    rw[tI,Jz (by grind)]
    grind[zeros]
   rw[e0,bs,show j-k=0 from by omega,show j+1-k=0 from by omega];rw[xG];unfold zPk;simp only
   rw[show decide ((0:Int)<0)=aE from rfl,zK];simp only
   rw[bs,zD (by omega) (by omega),bs,cs]
  ·obtain⟨i,rfl⟩:∃i,j=k+i:=⟨j-k,by omega⟩
   have hi:i<x.zA.length-k:=by omega
   have hr:=bC i hi;rw[zIL (by omega),bs,show k+i-k=i from by omega,show k+i+1-k=i+1 from by omega];rw[vS (S:=V (suf x k)) (fun w=>p++w) (fun w=>mul (suf x k) w (xL (x.zA.length-k) i)) (at0 u i) hr.1 (by grind[yU]) (fun w q hw hq=>by
    unfold zPk;simp only
    rw[aG hq,zJ,ab i w hi hw,bs,zD (by omega) (by omega),bs,cs]) (fun w hw=>by
    unfold zPk;simp) (hA i),bs,zD (by omega) (by omega),bs,cs]
   rw[zBc _ _ _ _ (by grind[zDz]) (by omega),zFG hi]) (by
  unfold zPl;simp only
  rw[mj,uU,zK,Jk (by grind[zDz]),Jk (by omega),zDw G.toMon _ _ hUs hv];have hn:=normal (suf x k) ok (fun Q hQ=>(zL0 Q (zGS hQ ok) (zBT hQ hc)).toMon) u hu
  grind)
 simp only[Nat.zero_sub,Lb,img]at this
 grind
theorem zDZ{x:SPr}(h:Pres x):∀(d k:Nat),k+d=x.zA.length→xX (suf x k)→(∀m,2*d+1≤m→FTV x k (zMQ m))
 |d,k,hk,hc=>fun m hm=>by
  obtain⟨m,rfl⟩:∃m',m=m'+1:=⟨m-1,by omega⟩;refine zOq h (by omega) hc fun j hj fO=>?_
  obtain⟨m,rfl⟩:∃m',m=m'+1:=⟨m-1,by omega⟩;have pA:xX (suf x (j+1)):=by
   have:=zDy hc (j+1-k)
   grind
  exact zIM h fO pA (zDZ h (x.zA.length-(j+1)) (j+1) (by omega) pA m (by omega))
 termination_by d=>d
 decreasing_by omega
theorem zQT{x:SPr}(h:Pres x){k:Nat}(hk:k≤x.zA.length)(hc:xX (suf x k)):FTV x k f_c:=fun p v u hp hv hu=>
 zAv (2*(x.zA.length-k)+1) fun m hm=>zDZ h (x.zA.length-k) k (by omega) hc m hm p v u hp hv hu
theorem zQU{x:SPr}(h:Pres x){k:Nat}(hk:k<x.zA.length)(hc:xX (suf x (k+1))):FTG x k f_b:=fun p v hp hv=>
 zAv (2*(x.zA.length-k)) fun m hm=>by obtain⟨m,rfl⟩:∃m',m=m'+1:=⟨m-1,by omega⟩;exact zIM h hk hc (zDZ h (x.zA.length-(k+1)) (k+1) (by omega) hc m (by omega)) p v hp hv
end Go.Pl

namespace Go.Pl
open Go Go.Ab Go.Wk Go.Pc
abbrev fv(k:Nat)(v:Vec):Vec:=zeros k++v
section
variable {x:SPr} (h:Pres x) {k:Nat} (hk:k≤x.zA.length) (hc:xX (suf x k))
 include h hk
theorem tW{v:Vec}(hv:V (suf x k) v):v.length=x.zA.length-k:=(zCV h.os (x.zA.length-k) k v (by omega) hv).1
theorem zBU{v:Vec}(hv:V (suf x k) v):(fv k v).length=x.zA.length:=by grind[zM,tW]
theorem zL5:J1 x.zA.length (0:Int)=fv k (zeros (suf x k).length):=by
 have _:=h;rw[yM];simp only[fv,zeros,J9];grind
 include hc
theorem zJR{i:Nat}(hi:i<x.zA.length-k):V (suf x k) (xL (x.zA.length-k) i):=by
 have _:=hc;have:=yM x k;rw[←this]at hi ⊢
 exact zBP (h.okAt hk) hi
theorem zIN{p:Vec}(hp:p.length=k){i:Nat}(hi:i<x.zA.length-k){w:Vec}(hw:V (suf x k) w):f_b x (p++w) ((k+i:Nat):Int)=aB (p++mul (suf x k) w (xL (x.zA.length-k) i)):=by
 obtain⟨q,w',h1,h2,h3,h4⟩:=zEQ i k w (by omega) hw;have pA:xX (suf x (k+i+1)):=zDy hc (i+1);have h5:=zQU h (k:=k+i) (by omega) pA (p++q) w' (by grind) h3;have h7:V (suf x (k+i)) (1::zeros (x.zA.length-(k+i+1))):=by
  have pm:k+i<x.zA.length:=by omega
  rw[zZ pm];have:=(h.os.2 (k+i) pm).pos;refine⟨⟨by omega,by show 1<at0 x.zA (k+i);omega⟩,?_⟩;rw[←yM];exact xR (h.okAt (by omega))
 grind[zAh]
theorem zFH{a b:Vec}(ha:V (suf x k) a)(hb:V (suf x k) b):f_c x (fv k a) (fv k b)=aB (fv k (mul (suf x k) a b)):=
 zQT h hk hc (zeros k) a b (zM k) ha hb
theorem zIO{a:Vec}(ha:V (suf x k) a):f_y (fv k a)=aB (fv k a):=by
 have _:=hc;have:=zBU h hk ha;have h6:=h.os.1
 grind[f_y,zX]
theorem zGt{a b:Vec}(ha:V (suf x k) a)(hb:V (suf x k) b):zPq x (fv k a) (fv k b)=aB (fv k (mul (suf x k) a b)):=by grind[zPq,zIO,zFH]
theorem zJS{c:Vec}(fe:V (suf x k) c){e:Int}(e0:0≤e)(e1:e≤1000):zR4 x (fv k c) e=aB (fv k (pw (mul (suf x k)) (zeros (suf x k).length) c e.toNat)):=by
 have h6:=h.os.1;have ok:=h.okAt hk;unfold zR4;rw[zBU h hk fe,yX (by omega),bs,zL5 h hk];rw[vS (S:=V (suf x k)) (body:=zJu x (fv k c) e) (fun u=>fv k u) (fun u=>mul (suf x k) u c) e e0 (by grind[yU]) (fun u i hu hi=>by
  unfold zJu;simp only
  rw[aG hi,zJ,zFH h hk hc hu fe,bs,zD (by omega) (by omega),bs,cs]) (fun u hu=>by
  unfold zJu;simp) (xR ok),bs]
 rfl
theorem zIP{v:Vec}(hv:V (suf x k) v):∃w,V (suf x k) w∧mul (suf x k) v w=zeros (suf x k).length∧f_N x (fv k v)=aB (fv k w):=by
 have h6:=h.os.1;have ok:=h.okAt hk;have G:=zFF h hk hc;have cP:=zBU h hk hv;have fa:=yM x k;unfold f_N;rw[zIO h hk hc hv,bs,cP,yX (by omega),bs,zL5 h hk]
 let I:Nat→(List Int×List Int×Int)→Prop:=fun j s=> ∃A w,s=(fv k A,fv k w,(j:Int))∧V (suf x k) A∧V (suf x k) w∧mul (suf x k) v w=A∧ ∃A',A=zeros (j-k)++A'
 have key:=uS (body:=zPp x (fv k v)) (Q:=fun r=> ∃w,V (suf x k) w∧mul (suf x k) v w=zeros (suf x k).length∧r=fv k w) I x.zA.length (fun j s hj hI=>by
  obtain⟨A,w,rfl,hA,hw,hm,A',hA'⟩:=hI;left;unfold zPp;simp only
  rw[cP,yS hj,zJ];rcases K2 j k with hjk|hjk
  ·have e0:ixO (fv k A) (j:Int)=aB 0:=by
    grind[tI,zeros]
   rw[xG];unfold zMR;simp only
   rw[e0,bs,show((0:Int) != 0)=aE from rfl,zK];simp only
   rw[bs,zD (by omega) (by omega),bs,cs]
   grind
  ·obtain⟨i,rfl⟩:∃i,j=k+i:=⟨j-k,by omega⟩
   have hi:i<x.zA.length-k:=by omega
   rw[show k+i-k=i from by omega]at hA';have fj:=tW h hk hA;obtain⟨a0,A',rfl⟩:∃p q,A'=p::q:=by
    cases A' with
    |nil=>grind[zM]
    |cons p q=>simp
   have eu:=(h.os.2 (k+i) hj).pos;have inner:=uS (body:=zMR x (fv k A,fv k w,((k+i:Nat):Int))) (s:=(fv k A,fv k w))
    (Q:=fun r=> ∃B u,r=(fv k B,fv k u)∧V (suf x k) B∧V (suf x k) u∧mul (suf x k) v u=B∧ ∃B',B=zeros (i+1)++B')
    (fun q s=> ∃B u b B',s=(fv k B,fv k u)∧V (suf x k) B∧V (suf x k) u∧mul (suf x k) v u=B∧B=zeros i++b::B'∧(b=0∨b=a0+q)) 10 (fun q s hq hs=>by
     obtain⟨B,u,b,B',rfl,hB,hu,pV,pG,hb⟩:=hs;have hz:ixO (fv k B) ((k+i:Nat):Int)=aB b:=by rw[fv,zIL (by grind[tW]),pG,at0,J2,Ja (by rw[zM];omega),zM,Ks];rfl
     unfold zMR;simp only
     rw[hz,bs]
     by_cases av:b=0
     ·subst av
      right;rw[show((0:Int) != 0)=aE from rfl,zK];exact⟨_,rfl,B,u,rfl,hB,hu,pV,B',by rw[pG,zBr]⟩
     ·left
      have hbq:b=a0+q:=by omega
      rw[show(b != 0)=aD from by grind,zJ,zIN h hk hc (zM k) hi hB,bs,zIN h hk hc (zM k) hi hu,bs];have hU:=zJR h hk hc hi;obtain⟨q',v',h1,h2,h3,h4⟩:=zEQ i k B (by omega) hB;have hqv:q'=zeros i∧v'=b::B':=by grind[List.append_inj,zM]
      obtain⟨rfl,rfl⟩:=hqv;have h7:V (suf x (k+i)) (1::zeros (x.zA.length-(k+i+1))):=by rw[zZ hj];refine⟨⟨by omega,by show 1<at0 x.zA (k+i);omega⟩,?_⟩;rw[←yM];exact xR (h.okAt (by omega))
      have h8:=h4 (b::B') _ h3 h7;rw[show x.zA.length-(k+i+1)=x.zA.length-k-(i+1)from by omega,←zAh hi,←h1,zZ hj,yJ]at h8;refine⟨_,rfl,mul (suf x k) B (xL (x.zA.length-k) i),mul (suf x k) u (xL (x.zA.length-k) i),?_⟩;have fg:(lvl x (k+i)).o=at0 x.zA (k+i):=rfl;rw[fg]at h8
      by_cases hge:b+1≥at0 x.zA (k+i)
      ·rw[if_pos hge]at h8
       refine⟨_,_,rfl,yU ok hB hU,yU ok hu hU,?_,h8,?_⟩
       ·rw[←G.assoc hv hu hU,pV]
       ·left
        rw[zZ hj]at h3;have:=h3.1.2;omega
      ·rw[if_neg hge]at h8
       refine⟨_,_,rfl,yU ok hB hU,yU ok hu hU,?_,h8,?_⟩
       ·rw[←G.assoc hv hu hU,pV]
       omega) (fun s hs=>by
     obtain⟨B,u,b,B',rfl,hB,hu,pV,pG,hb⟩:=hs;have hz:ixO (fv k B) ((k+i:Nat):Int)=aB b:=by rw[fv,zIL (by grind[tW]),pG,at0,J2,Ja (by rw[zM];omega),zM,Ks];rfl
     have hbr:=(zCV h.os (x.zA.length-k) k B (by omega) hB).2 i hi;have ha:=(zCV h.os (x.zA.length-k) k A (by omega) hA).2 i hi;have e1:at0 B i=b:=by rw[pG,at0,J2,Ja (by grind[zM]),zM,Ks];rfl
     have e2:at0 A i=a0:=by rw[hA',at0,J2,Ja (by grind[zM]),zM,Ks];rfl
     have av:b=0:=by omega
     subst av;unfold zMR;simp only
     rw[hz,bs,show((0:Int) != 0)=aE from rfl,zK];exact⟨_,rfl,B,u,rfl,hB,hu,pV,B',by rw[pG,zBr]⟩) (by grind)
   obtain⟨r,r1,B,u,rfl,hB,hu,pV,B',pG⟩:=inner;rw[r1,bs,zD (by omega) (by omega),bs,cs]
   grind) (fun s hI=>by
  obtain⟨A,w,rfl,hA,hw,hm,A',hA'⟩:=hI;unfold zPp;simp only
  rw[cP,uU,zK];refine⟨_,rfl,w,hw,?_,rfl⟩;have fj:=tW h hk hA;rw[hA',Jb,zM]at fj
  grind) (s:=(fv k v,fv k (zeros (suf x k).length),0))
  ⟨v,_,rfl,hv,xR ok,G.oner hv,v,by rw[Nat.zero_sub];rfl⟩
 grind
theorem zBV{a b:Vec}(ha:V (suf x k) a)(hb:V (suf x k) b):∃c,V (suf x k) c∧mul (suf x k) b c=mul (suf x k) a b∧zPr x (fv k a) (fv k b)=aB (fv k c):=by
 have ok:=h.okAt hk;have G:=zFF h hk hc;obtain⟨w,hw,hm,h1⟩:=zIP h hk hc hb;have ax:=yU ok ha hb;refine⟨mul (suf x k) w (mul (suf x k) a b),yU ok hw ax,?_,?_⟩
 ·rw[←G.assoc hb hw ax,hm,G.onel ax]
 grind[zPr,zGt]
end
theorem zBs{a b:List Int}(h:a.length≤1000000):f_T a b=aB (a==b):=
 zII (t:=fun u v=>aB (u==v)) (body:=zUv a b) rfl (fun _=>rfl) (by omega) fun _ _ _ _=>rfl
theorem zEa{a b:List Int}(h:a.length≤1000000):f_J a b=aB (a==b):=zBs h
end Go.Pl

namespace Go.Pl
open Go Go.Ab Go.Wk Go.Pc
theorem zIQ{ρ:Type}{body:Int→Option (Int⊕(Unit⊕ρ))}(n i0:Nat)(hn:i0≤n)(P:Nat→Prop)(B:ρ→Prop)
  (h:∀i,i0≤i→i<n→(∀j,i0≤j→j<i→P j)→(body (i:Int)=aB (.inl ((i+1:Nat):Int))∧P i)∨(∃r,body (i:Int)=aB (.inr (.inr r))∧B r∧ ¬P i))
  (he:body (n:Int)=aB (.inr (.inl ()))):
  (zC body (i0:Int)=aB (.inl ())∧ ∀j,i0≤j→j<n→P j)∨ ∃r i,i0≤i∧i<n∧zC body (i0:Int)=aB (.inr r)∧B r∧ ¬P i:=by
 have key:∀k i,i0≤i→i+k=n→(∀j,i0≤j→j<i→P j)→(zC body (i:Int)=aB (.inl ())∧ ∀j,i0≤j→j<n→P j)∨ ∃r q,i0≤q∧q<n∧zC body (i:Int)=aB (.inr r)∧B r∧ ¬P q:=by
  intro k
  induction k with
  |zero=>
   intro i hi hk hp;obtain rfl:i=n:=by omega
   grind[xG]
  |succ k ih=>
   intro i hi hk hp;rcases h i hi (by omega) hp with⟨h1,h2⟩|⟨r,h1,h2,h3⟩
   ·have:=ih (i+1) (by omega) (by omega) (by grind)
    rw[xG,h1];exact this
   ·exact .inr ⟨r,i,hi,by omega,by rw[xG,h1],h2,h3⟩
 exact key (n-i0) i0 (Ji _) (by omega) fun j a b=>by omega
theorem zCW{σ ρ:Type}{body:σ→Option (σ⊕ρ)}{Q:ρ→Prop}(I:σ→Prop)(m:σ→Nat)
  (h:∀s,I s→(∃s',body s=aB (.inl s')∧I s'∧m s'<m s)∨ ∃r,body s=aB (.inr r)∧Q r):∀(k:Nat)(s:σ),m s≤k→I s→ ∃r,zC body s=aB r∧Q r
 |k,s,hk,hs=>by
  rcases h s hs with⟨s',h1,h2,h3⟩|⟨r,h1,h2⟩
  ·cases k with
   |zero=>omega
   |succ k=>
    obtain⟨r,h4,h5⟩:=zCW I m h k s' (by omega) h2
    grind[xG]
  grind[xG]
theorem zTS{k:Nat}{a b:Vec}:(fv k a==fv k b)=aD↔a=b:=by simp
theorem zBW{x:SPr}{v:List Int}{i k:Nat}(h:Exp x.zA v i)(hk:k≤i+1)(hn:k≤x.zA.length):v=fv k (v.drop k)∧V (suf x k) (v.drop k):=by
 have h1:=h.1.1;constructor
 ·apply K8
  intro j;rw[fv,K4];simp only[zeros,Ju,Ka,Kw];split
  ·rename_i hj
   have h2:=h.2 j (by omega)
   grind
  grind
 ·refine zQR (x.zA.length-k) k _ (by omega) (by grind) fun j hj=>?_
  have:=h.1.2 (k+j) (by omega)
  grind
structure LC (x:SPr) (k:Nat):Prop where
 c1:∀j,k+1≤j→j<x.zA.length→pw (mul (suf x (k+1))) (zeros (suf x (k+1)).length) ((lvl x k).cs.getD (j-(k+1)) []) (at0 x.zA j).toNat=sig (suf x (k+1)) (lvl x k) ((x.zF.getD j []).drop (k+1))
 c2:∀i,k+1≤i→i<x.zA.length→ ∀j,i+1≤j→j<x.zA.length→
  mul (suf x (k+1)) ((lvl x k).cs.getD (j-(k+1)) []) ((lvl x k).cs.getD (i-(k+1)) [])=mul (suf x (k+1)) ((lvl x k).cs.getD (i-(k+1)) []) (sig (suf x (k+1)) (lvl x k) (((x.zB.getD i []).getD (j-(i+1)) []).drop (k+1)))
 c3:sig (suf x (k+1)) (lvl x k) (lvl x k).w=(lvl x k).w
 c4:∀j,k+1≤j→j<x.zA.length→mul (suf x (k+1)) (lvl x k).w (iter (lvl x k).o.toNat (sig (suf x (k+1)) (lvl x k)) (xL (x.zA.length-(k+1)) (j-(k+1))))=mul (suf x (k+1)) (xL (x.zA.length-(k+1)) (j-(k+1))) (lvl x k).w
section
variable {x:SPr} (h:Pres x) {k:Nat} (hk:k<x.zA.length) (hc:xX (suf x (k+1)))
 include h hk
theorem tX{j:Nat}(h1:k+1≤j)(h2:j<x.zA.length):ixO x.zB (k:Int)=aB (x.zB.getD k [])∧ixO (x.zB.getD k []) ((j:Int)-(k:Int)-1)=aB (fv (k+1) ((lvl x k).cs.getD (j-(k+1)) []))∧V (suf x (k+1)) ((lvl x k).cs.getD (j-(k+1)) []):=by
 obtain⟨c,c1,c2,c3,c4⟩:=zDx h hk (i:=j-(k+1)) (by omega)
 grind
theorem zJT{j:Nat}(h1:k+1≤j)(h2:j<x.zA.length):ixO x.zF (j:Int)=aB (fv (k+1) ((x.zF.getD j []).drop (k+1)))∧V (suf x (k+1)) ((x.zF.getD j []).drop (k+1)):=by
 have t1:=(h.tl j h2).1;have hl:=h.pl
 grind[zBW,zT]
theorem zL6{i j:Nat}(h1:k+1≤i)(h2:i+1≤j)(h3:j<x.zA.length):ixO x.zB (i:Int)=aB (x.zB.getD i [])∧ixO (x.zB.getD i []) ((j:Int)-(i:Int)-1)=aB (fv (k+1) (((x.zB.getD i []).getD (j-(i+1)) []).drop (k+1)))∧V (suf x (k+1)) (((x.zB.getD i []).getD (j-(i+1)) []).drop (k+1)):=by
 obtain⟨_,t2,t3⟩:=h.tl i (by omega)
 grind[zBW,zT]
theorem zOr:ixO x.zF (k:Int)=aB (fv (k+1) (lvl x k).w)∧V (suf x (k+1)) (lvl x k).w:=by have t1:=(h.tl k hk).1;have hl:=h.pl;obtain⟨e1,e2⟩:=zBW (k:=k+1) t1 (by omega) (by omega);exact⟨by rw[zT [] (by omega)];exact congrArg aB e1,e2⟩
theorem zSN{v:Vec}(hv:V (suf x (k+1)) v):V (suf x (k+1)) (sig (suf x (k+1)) (lvl x k) v):=by
 have ok0:=h.okAt (k:=k) (by omega)
 grind[zZ,zBQ]
theorem zGU{j:Nat}(h1:k+1≤j)(h2:j<x.zA.length):zHQ (x.zA.length:Int) (j:Int)=aB (fv (k+1) (xL (x.zA.length-(k+1)) (j-(k+1)))):=by
 have h6:=h.os.1;unfold zHQ;rw[yX (by omega),bs,tI,Ka,if_pos h2,bs,Jj]
 congr 1
 rw[fv,zAh (by omega),←Je];have e1:zeros (k+1)++zeros (j-(k+1))=zeros j:=by grind[zeros,J9]
 have e2:J1 x.zA.length (0:Int)=zeros j++0::zeros (x.zA.length-(j+1)):=by simp only[zeros];rw[←Kv,J9];grind
 grind[zCD]
theorem zM1{j:Nat}(h1:k+1≤j)(h2:j<x.zA.length):zGj (x.zA.length:Int) (j:Int)=aB (fv (k+1) (xL (x.zA.length-(k+1)) (j-(k+1)))):=zGU h hk h1 h2
 include hc
theorem zAi{v:Vec}(hv:V (suf x (k+1)) v):f_C x k (fv (k+1) v)=aB (fv (k+1) (sig (suf x (k+1)) (lvl x k) v)):=by
 have h6:=h.os.1;have ok:=h.okAt (k:=k+1) (by omega);have ok0:=h.okAt (k:=k) (by omega);rw[zZ hk]at ok0;obtain⟨cP,bf⟩:=zCV h.os (x.zA.length-(k+1)) (k+1) v (by omega) hv;have gC:(lvl x k).cs.length=x.zA.length-(k+1):=by rw[ok0.2.2.1,yM]
 have t2:=(h.tl k hk).2.1;have aj:=h.cl;have hA:∀i,V (suf x (k+1)) (img (mul (suf x (k+1))) ((lvl x k).cs.take i) (v.take i) (zeros (suf x (k+1)).length)):=fun i=>
  sD (yU ok) _ _ (fun c hc=>ok0.2.2.2.1 c (by grind)) (xR ok)
 unfold f_C;rw[zBU h (by omega) hv,yX (by omega),bs,zT [] (by omega),bs,zL5 h (k:=k+1) (by omega)];have:=zP (body:=zPo x k (fv (k+1) v) (x.zB.getD k [])) (r:=fv (k+1) (sig (suf x (k+1)) (lvl x k) v))
  (fun i=>(fv (k+1) (img (mul (suf x (k+1))) ((lvl x k).cs.take i) (v.take i) (zeros (suf x (k+1)).length)),(i:Int))) (x.zB.getD k []).length (fun i hi=>by
  have hr:=bf i (by omega);obtain⟨c,c1,c2,c3,c4⟩:=zDx h hk (i:=i) (by omega);unfold zPo;simp only
  rw[yS hi,zJ,c2,bs,zD (by omega) (by omega),bs,zD (by omega) (by omega),bs,show(k:Int)+1+(i:Int)=((k+1+i:Nat):Int)from by omega,fv,zIL (by omega),bs];rw[vS (S:=V (suf x (k+1))) (body:=zPn x (zeros (k+1)++c) (at0 v i)) (fun u=>fv (k+1) u) (fun u=>mul (suf x (k+1)) u c) (at0 v i) hr.1 (by grind[yU]) (fun u q hu hq=>by
   unfold zPn;simp only
   rw[aG hq,zJ,zFH h (by omega) hc hu c3,bs,zD (by omega) (by omega),bs,cs]) (fun u hu=>by
   unfold zPn;simp) (hA i),bs,zD (by omega) (by omega),bs,cs]
  rw[zBc _ _ _ _ (by omega) (by omega),c4]) (by
  unfold zPo;simp only
  rw[uU,zK,Jk (by omega),Jk (by omega)];rfl)
 simp only[Lb,img]at this
 grind
theorem zBX{a b:Vec}(ha:V (suf x (k+1)) a):IsB (f_T (fv (k+1) a) (fv (k+1) b)) (a=b):=by
 have _:=hc;have h6:=h.os.1
 grind[zBs,zBU,IsB.of_bool,zTS]
theorem zIR{c:Vec}(fe:V (suf x (k+1)) c){e:Int}(e0:0≤e)(e1:e≤1000):zRt x ((k+1:Nat):Int) (fv (k+1) c) e=aB (fv (k+1) (pw (mul (suf x (k+1))) (zeros (suf x (k+1)).length) c e.toNat)):=by
 have h6:=h.os.1;have ok:=h.okAt (k:=k+1) (by omega);have G:=zFF h (k:=k+1) (by omega) hc;have hA:=zL4 h (k:=k+1) (by omega);have pwV:∀a,V (suf x (k+1)) (pw (mul (suf x (k+1))) (zeros (suf x (k+1)).length) c a):=fun a=>uM G.toMon fe a
 unfold zRt;rw[yX (by omega),bs,zL5 h (k:=k+1) (by omega)];obtain⟨r,r1,r2⟩:=zCW (body:=zLV x ((k+1:Nat):Int)) (Q:=fun r=>r=fv (k+1) (pw (mul (suf x (k+1))) (zeros (suf x (k+1)).length) c e.toNat))
  (fun s=> ∃(m a q:Nat),s=((m:Int),fv (k+1) (pw (mul (suf x (k+1))) (zeros (suf x (k+1)).length) c a),fv (k+1) (pw (mul (suf x (k+1))) (zeros (suf x (k+1)).length) c q))∧a+q*m=e.toNat∧m≤1000) (fun s=>s.1.toNat) (fun s ⟨m,a,q,hs,he,hm⟩=>by
   subst hs;unfold zLV;simp only
   by_cases hm0:m=0
   ·grind
   ·left
    have hr:yV (m:Int) 2=aB ((m%2:Nat):Int):=by rfl
    have hq:xK (m:Int) 2=aB ((m/2:Nat):Int):=by
     unfold xK;rw[if_neg (by decide),Lg (by omega)]
     grind[zD]
    have hdm:=Nat.div_add_mod m 2;have mw:mul (suf x (k+1)) (pw (mul (suf x (k+1))) (zeros (suf x (k+1)).length) c q) (pw (mul (suf x (k+1))) (zeros (suf x (k+1)).length) c q)=pw (mul (suf x (k+1))) (zeros (suf x (k+1)).length) c (q+q):=(zFC G.toMon fe q q).symm;rw[aG (by omega),zJ,hr,bs];rcases Nat.mod_two_eq_zero_or_one m with h2|h2
    ·rw[h2,show((((0:Nat):Int))==1)=aE from rfl,zK,hA _ _ (pwV q) (pwV q),bs,hq,bs,mw]
     refine⟨_,rfl,⟨m/2,a,q+q,rfl,?_,by omega⟩,by omega⟩
     grind
    ·rw[h2,show((((1:Nat):Int))==1)=aD from rfl,zJ,hA _ _ (pwV a) (pwV q),bs,hA _ _ (pwV q) (pwV q),bs,hq,bs,mw,←zFC G.toMon fe a q]
     refine⟨_,rfl,⟨m/2,a+q,q+q,rfl,?_,by omega⟩,by omega⟩
     grind) 1000000 (e,fv (k+1) (zeros (suf x (k+1)).length),fv (k+1) c) (by omega) ⟨e.toNat,0,1,by rw[zOn G.toMon fe,show((e.toNat:Nat):Int)=e from by omega];rfl,by omega,by omega⟩
 grind
end
end Go.Pl

namespace Go.Pl
open Go Go.Ab Go.Wk Go.Pc
def zWj(o:Option yH)(P:Prop):Prop:=(o=aB (yH.mk 0 0 0 0)∧P)∨ ∃r,o=aB r∧r.Kind≠0∧ ¬P
theorem kb{a b c d:Int}(h:a≠0):(yH.mk a b c d).Kind≠0:=h
abbrev KB(r:yH):Prop:=r.Kind≠0
theorem zBd{o:Option Bool}{P:Prop}{bad:yH}{i:Nat}{g:Option (Int⊕(Unit⊕yH))}(h:IsB o P)(hi:i<9223372036854775807)(hbad:bad.Kind≠0)
  (hg:g=o.bind fun r=>cond (!r) (aB (.inr (.inr bad))) ((rng ((i:Int)+1)).bind fun v=>aB (.inl v))):(g=aB (.inl ((i+1:Nat):Int))∧P)∨(∃r,g=aB (.inr (.inr r))∧KB r∧ ¬P):=by
 rcases wT h hi hg with h|⟨h1,h2⟩
 all_goals grind
section
variable {x:SPr} (h:Pres x) {k:Nat} (hk:k<x.zA.length) (hc:xX (suf x (k+1)))
 include h hk hc
theorem zFI:zWj (f_j x k) (LC x k):=by
 have h6:=h.os.1;have ok:=h.okAt (k:=k+1) (by omega);have G:=zFF h (k:=k+1) (by omega) hc;obtain⟨w1,w2⟩:=zOr h hk;have fS:∀v,V (suf x (k+1)) v→V (suf x (k+1)) (sig (suf x (k+1)) (lvl x k) v):=by grind[zSN]
 unfold f_j;rw[zD (by omega) (by omega),bs,cs];rcases zIQ (body:=zPs x k) x.zA.length (k+1) (by omega) (fun j=>pw (mul (suf x (k+1))) (zeros (suf x (k+1)).length) ((lvl x k).cs.getD (j-(k+1)) []) (at0 x.zA j).toNat=sig (suf x (k+1)) (lvl x k) ((x.zF.getD j []).drop (k+1))) KB (fun j h1 h2 _=>by
   obtain⟨c1,c2,c3⟩:=tX h hk h1 h2;obtain⟨p1,p2⟩:=zJT h hk h1 h2;have eu:=(h.os.2 j h2).pos;refine zBd (zBX h hk hc (uM G.toMon c3 (at0 x.zA j).toNat)) (by omega) (bad:=yH.mk 1 k j 0) (kb (by decide)) ?_;unfold zPs;rw[yS h2,zJ,c1,bs,zD (by omega) (by omega),bs,zD (by omega) (by omega),bs,c2,bs,yK h2,bs,zJS h (by omega) hc c3 (by omega) (by omega),bs,p1,bs,zAi h hk hc p2,bs]) (by
   unfold zPs;simp)with⟨g1,g2⟩|⟨r,j,j1,j2,g1,g2,g3⟩
 rotate_left
 ·rw[g1,bs]
  exact .inr ⟨r,rfl,g2,fun q=>g3 (q.c1 j j1 j2)⟩
 rw[g1,bs];simp only
 rw[bs];rcases zIQ (body:=zPu x k) x.zA.length (k+1) (by omega) (fun i=> ∀j,i+1≤j→j<x.zA.length→
   mul (suf x (k+1)) ((lvl x k).cs.getD (j-(k+1)) []) ((lvl x k).cs.getD (i-(k+1)) [])=mul (suf x (k+1)) ((lvl x k).cs.getD (i-(k+1)) []) (sig (suf x (k+1)) (lvl x k) (((x.zB.getD i []).getD (j-(i+1)) []).drop (k+1)))) KB (fun i h1 h2 _=>by
   obtain⟨c1,c2,c3⟩:=tX h hk h1 h2;unfold zPu;rw[yS h2,zJ,zD (by omega) (by omega),bs,cs];rcases zIQ (body:=zPt x k i) x.zA.length (i+1) (by omega) (fun j=>mul (suf x (k+1)) ((lvl x k).cs.getD (j-(k+1)) []) ((lvl x k).cs.getD (i-(k+1)) [])=mul (suf x (k+1)) ((lvl x k).cs.getD (i-(k+1)) []) (sig (suf x (k+1)) (lvl x k) (((x.zB.getD i []).getD (j-(i+1)) []).drop (k+1)))) KB (fun j h3 h4 _=>by
     obtain⟨d1,d2,d3⟩:=tX h hk (j:=j) (by omega) h4;obtain⟨e1,e2,e3⟩:=zL6 h hk h1 h3 h4;obtain⟨q,q1,q2,q3⟩:=zBV h (by omega) hc d3 c3;refine zBd ((zBX h hk hc (b:=sig (suf x (k+1)) (lvl x k) (((x.zB.getD i []).getD (j-(i+1)) []).drop (k+1))) q1).iff (Q:=mul (suf x (k+1)) ((lvl x k).cs.getD (j-(k+1)) []) ((lvl x k).cs.getD (i-(k+1)) [])=mul (suf x (k+1)) ((lvl x k).cs.getD (i-(k+1)) []) (sig (suf x (k+1)) (lvl x k) (((x.zB.getD i []).getD (j-(i+1)) []).drop (k+1)))) ?_) (by omega) (bad:=yH.mk 2 k i j) (kb (by decide)) ?_
     ·exact⟨by grind,fun e=>G.cancel_l c3 q1 (fS _ e3) (by rw[q2,e])⟩
     ·unfold zPt
      rw[yS h4,zJ,d1,bs,zD (by omega) (by omega),bs,zD (by omega) (by omega),bs,d2,bs,bs,zD (by omega) (by omega),bs,zD (by omega) (by omega),bs,c2,bs,q3,bs,e1,bs,zD (by omega) (by omega),bs,zD (by omega) (by omega),bs,e2,bs,zAi h hk hc e3,bs]) (by
     unfold zPt;simp)with⟨g1,g2⟩|⟨r,j,j1,j2,g1,g2,g3⟩
   ·grind
   grind) (by
   unfold zPu;simp)with⟨k1,k2⟩|⟨r,j,j1,j2,k1,k2,k3⟩
 rotate_left
 ·rw[k1,bs]
  exact .inr ⟨r,rfl,k2,fun q=>k3 (q.c2 j j1 j2)⟩
 rw[k1,bs];simp only
 rw[w1,bs,zAi h hk hc w2,bs];rcases zBX h hk hc (b:=(lvl x k).w) (fS _ w2)with⟨m1,m2⟩|⟨m1,m2⟩
 rotate_left
 ·rw[m1,bs,Jx,zJ]
  exact .inr ⟨_,rfl,kb (by decide),fun q=>m2 q.c3⟩
 rw[m1,bs,J6,zK,bs];rcases zIQ (body:=zPw x k (fv (k+1) (lvl x k).w)) x.zA.length (k+1) (by omega) (fun j=>mul (suf x (k+1)) (lvl x k).w (iter (lvl x k).o.toNat (sig (suf x (k+1)) (lvl x k)) (xL (x.zA.length-(k+1)) (j-(k+1))))=mul (suf x (k+1)) (xL (x.zA.length-(k+1)) (j-(k+1))) (lvl x k).w) KB (fun j h1 h2 _=>by
   have hU:=zJR h (k:=k+1) (by omega) hc (i:=j-(k+1)) (by omega);have eu:=(h.os.2 k hk).pos;obtain⟨q,q1,q2,q3⟩:=zBV h (k:=k+1) (by omega) hc hU w2;have eg:V (suf x (k+1)) (iter (lvl x k).o.toNat (sig (suf x (k+1)) (lvl x k)) (xL (x.zA.length-(k+1)) (j-(k+1)))):=wO fS _ hU;refine zBd ((zBX h hk hc (b:=q) eg).iff ⟨by grind,fun e=>G.cancel_l w2 eg q1 (by rw[e,q2])⟩) (by omega) (bad:=yH.mk 4 k j 0) (kb (by decide)) ?_;unfold zPw;rw[yS h2,zJ,zGU h hk h1 h2,bs,yK hk,bs];rw[vS (S:=V (suf x (k+1))) (body:=zPv x k (at0 x.zA k)) (fun u=>fv (k+1) u) (sig (suf x (k+1)) (lvl x k)) (at0 x.zA k) (by omega) fS (fun u i hu hi=>by
    unfold zPv;simp only
    rw[aG hi,zJ,zAi h hk hc hu,bs,zD (by omega) (by omega),bs,cs]) (fun u hu=>by
    unfold zPv;simp) hU,bs,bs,q3,bs]
   rfl) (by
   unfold zPw;simp)with⟨n1,n2⟩|⟨r,j,j1,j2,n1,n2,n3⟩
 ·rw[n1,bs]
  exact .inl ⟨rfl,⟨g2,k2,m2,n2⟩⟩
 ·rw[n1,bs]
  exact .inr ⟨r,rfl,n2,fun q=>n3 (q.c4 j j1 j2)⟩
theorem zJU:zWj (f_k x k) (LC x k):=by
 have h6:=h.os.1;have ok:=h.okAt (k:=k+1) (by omega);have G:=zFF h (k:=k+1) (by omega) hc;obtain⟨w1,w2⟩:=zOr h hk;have hA:=zL4 h (k:=k+1) (by omega);have hI:=zJP h hk;have fS:∀v,V (suf x (k+1)) v→V (suf x (k+1)) (sig (suf x (k+1)) (lvl x k) v):=by grind[zSN]
 have eqB:∀{a b:Vec},V (suf x (k+1)) a→IsB (f_J (fv (k+1) a) (fv (k+1) b)) (a=b):=fun ha=>zBX h hk hc ha
 unfold f_k;rw[zD (by omega) (by omega),bs,cs];rcases zIQ (body:=zPa x k) x.zA.length (k+1) (by omega) (fun j=>pw (mul (suf x (k+1))) (zeros (suf x (k+1)).length) ((lvl x k).cs.getD (j-(k+1)) []) (at0 x.zA j).toNat=sig (suf x (k+1)) (lvl x k) ((x.zF.getD j []).drop (k+1))) KB (fun j h1 h2 _=>by
   obtain⟨c1,c2,c3⟩:=tX h hk h1 h2;obtain⟨p1,p2⟩:=zJT h hk h1 h2;have eu:=(h.os.2 j h2).pos;refine zBd (eqB (uM G.toMon c3 (at0 x.zA j).toNat)) (by omega) (bad:=yH.mk 1 k j 0) (kb (by decide)) ?_;unfold zPa;rw[yS h2,zJ,zD (by omega) (by omega),bs,cs,c1,bs,zD (by omega) (by omega),bs,zD (by omega) (by omega),bs,c2,bs,yK h2,bs,zIR h hk hc c3 (by omega) (by omega),bs,p1,bs,hI _ p2,bs]) (by
   unfold zPa;simp)with⟨g1,g2⟩|⟨r,j,j1,j2,g1,g2,g3⟩
 rotate_left
 ·rw[g1,bs]
  exact .inr ⟨r,rfl,g2,fun q=>g3 (q.c1 j j1 j2)⟩
 rw[g1,bs];simp only
 rw[bs];rcases zIQ (body:=zPc x k) x.zA.length (k+1) (by omega) (fun i=> ∀j,i+1≤j→j<x.zA.length→
   mul (suf x (k+1)) ((lvl x k).cs.getD (j-(k+1)) []) ((lvl x k).cs.getD (i-(k+1)) [])=mul (suf x (k+1)) ((lvl x k).cs.getD (i-(k+1)) []) (sig (suf x (k+1)) (lvl x k) (((x.zB.getD i []).getD (j-(i+1)) []).drop (k+1)))) KB (fun i h1 h2 _=>by
   obtain⟨c1,c2,c3⟩:=tX h hk h1 h2;unfold zPc;rw[yS h2,zJ,zD (by omega) (by omega),bs,cs];rcases zIQ (body:=zPb x k i) x.zA.length (i+1) (by omega) (fun j=>mul (suf x (k+1)) ((lvl x k).cs.getD (j-(k+1)) []) ((lvl x k).cs.getD (i-(k+1)) [])=mul (suf x (k+1)) ((lvl x k).cs.getD (i-(k+1)) []) (sig (suf x (k+1)) (lvl x k) (((x.zB.getD i []).getD (j-(i+1)) []).drop (k+1)))) KB (fun j h3 h4 _=>by
     obtain⟨d1,d2,d3⟩:=tX h hk (j:=j) (by omega) h4;obtain⟨e1,e2,e3⟩:=zL6 h hk h1 h3 h4;refine zBd (eqB (yU ok d3 c3)) (by omega) (bad:=yH.mk 2 k i j) (kb (by decide)) ?_;unfold zPb;rw[yS h4,zJ,d1,bs,zD (by omega) (by omega),bs,zD (by omega) (by omega),bs,c2,bs,bs,zD (by omega) (by omega),bs,zD (by omega) (by omega),bs,d2,bs,e1,bs,zD (by omega) (by omega),bs,zD (by omega) (by omega),bs,e2,bs,hI _ e3,bs,zD (by omega) (by omega),bs,cs,hA _ _ d3 c3,bs,bs,hA _ _ c3 (fS _ e3),bs]) (by
     unfold zPb;simp)with⟨g1,g2⟩|⟨r,j,j1,j2,g1,g2,g3⟩
   ·grind
   grind) (by
   unfold zPc;simp)with⟨k1,k2⟩|⟨r,j,j1,j2,k1,k2,k3⟩
 rotate_left
 ·rw[k1,bs]
  exact .inr ⟨r,rfl,k2,fun q=>k3 (q.c2 j j1 j2)⟩
 rw[k1,bs];simp only
 rw[w1,bs,hI _ w2,bs];rcases eqB (b:=(lvl x k).w) (fS _ w2)with⟨m1,m2⟩|⟨m1,m2⟩
 rotate_left
 ·rw[m1,bs,Jx,zJ]
  exact .inr ⟨_,rfl,kb (by decide),fun q=>m2 q.c3⟩
 rw[m1,bs,J6,zK,bs];rcases zIQ (body:=zPe x k (fv (k+1) (lvl x k).w)) x.zA.length (k+1) (by omega) (fun j=>mul (suf x (k+1)) (lvl x k).w (iter (lvl x k).o.toNat (sig (suf x (k+1)) (lvl x k)) (xL (x.zA.length-(k+1)) (j-(k+1))))=mul (suf x (k+1)) (xL (x.zA.length-(k+1)) (j-(k+1))) (lvl x k).w) KB (fun j h1 h2 _=>by
   have hU:=zJR h (k:=k+1) (by omega) hc (i:=j-(k+1)) (by omega);have eu:=(h.os.2 k hk).pos;have eg:V (suf x (k+1)) (iter (lvl x k).o.toNat (sig (suf x (k+1)) (lvl x k)) (xL (x.zA.length-(k+1)) (j-(k+1)))):=wO fS _ hU;refine zBd (eqB (yU ok w2 eg)) (by omega) (bad:=yH.mk 4 k j 0) (kb (by decide)) ?_;unfold zPe;rw[yS h2,zJ,zM1 h hk h1 h2,bs];rw[vS (S:=V (suf x (k+1))) (body:=zPd x k) (fun u=>fv (k+1) u) (sig (suf x (k+1)) (lvl x k)) (at0 x.zA k) (by omega) fS (fun u i hu hi=>by
    unfold zPd;simp only
    rw[yK hk,bs,aG hi,zJ,hI _ hu,bs,zD (by omega) (by omega),bs,cs]) (fun u hu=>by
    unfold zPd;simp only
    rw[yK hk,bs,aF (by omega),zK]) hU,bs,zD (by omega) (by omega),bs,cs]
   have ho:(lvl x k).o=at0 x.zA k:=rfl;rw[←ho,hA _ _ w2 eg,bs,bs,hA _ _ hU w2,bs]) (by
   unfold zPe;simp)with⟨n1,n2⟩|⟨r,j,j1,j2,n1,n2,n3⟩
 ·rw[n1,bs]
  exact .inl ⟨rfl,⟨g2,k2,m2,n2⟩⟩
 ·rw[n1,bs]
  exact .inr ⟨r,rfl,n2,fun q=>n3 (q.c4 j j1 j2)⟩
end
end Go.Pl

namespace Go.Pl
open Go Go.Ab Go.Wk Go.Pc
theorem zEb{m:Vec→Vec→Vec}:∀(i:Nat)(cs:List Vec)(w acc:Vec),i≤cs.length→img m cs (zeros i++w) acc=img m (cs.drop i) w acc
 |0,cs,w,acc,_=>rfl
 |i+1,[],w,acc,h=>by simp at h
 |i+1,c::cs,w,acc,h=>by show img m (c::cs) (0::(zeros i++w)) acc=_;simp only[img,H8,iter,List.drop_succ_cons];exact zEb i cs w acc (by grind)
theorem zFJ{x:SPr}{v:List Int}{j k:Nat}(h:Exp x.zA v j)(hj:j<x.zA.length)(hk:k≤j+1):v.drop k=zeros (j+1-k)++v.drop (j+1):=by
 have:=zAl h hj
 grind[zeros]
section
variable {x:SPr} (h:zCC x) {k:Nat} (hk:k<x.zA.length)
 include h hk
theorem zAm:(lvl x k).cs.length=x.zA.length-(k+1):=by have ok0:=h.okAt (k:=k) (by omega);rw[zZ hk]at ok0;rw[ok0.2.2.1,yM]
theorem zQV{j:Nat}(h1:k+1≤j)(h2:j<x.zA.length):sig (suf x (k+1)) (lvl x k) ((x.zF.getD j []).drop (k+1))=img (mul (suf x (k+1))) ((lvl x k).cs.drop (j-k)) (lvl x j).w (zeros (suf x (k+1)).length):=by have t1:=(h.tl j h2).1;have gC:=zAm h hk;rw[zFJ t1 h2 (by omega),sig,zEb _ _ _ _ (by omega),show j+1-(k+1)=j-k from by omega];rfl
theorem zL7:∀(d i:Nat),k+1+i+d=x.zA.length→(Rel (mul (suf x (k+1))) (zeros (suf x (k+1)).length) (suf x (k+1+i)) ((lvl x k).cs.drop i)↔
  (∀j,k+1+i≤j→j<x.zA.length→pw (mul (suf x (k+1))) (zeros (suf x (k+1)).length) ((lvl x k).cs.getD (j-(k+1)) []) (at0 x.zA j).toNat=sig (suf x (k+1)) (lvl x k) ((x.zF.getD j []).drop (k+1)))∧
  (∀a,k+1+i≤a→a<x.zA.length→ ∀j,a+1≤j→j<x.zA.length→
   mul (suf x (k+1)) ((lvl x k).cs.getD (j-(k+1)) []) ((lvl x k).cs.getD (a-(k+1)) [])=mul (suf x (k+1)) ((lvl x k).cs.getD (a-(k+1)) []) (sig (suf x (k+1)) (lvl x k) (((x.zB.getD a []).getD (j-(a+1)) []).drop (k+1)))))
 |0,i,hi=>by
  have gC:=zAm h hk;rw[vN (x:=x) (k:=k+1+i) (by omega),Lr (by omega)];simp only[Rel,true_iff]
  grind
 |d+1,i,hi=>by
  have gC:=zAm h hk;have ih:=zL7 d (i+1) (by omega);rw[show k+1+(i+1)=k+1+i+1 from by omega]at ih;have hj:k+1+i<x.zA.length:=by omega
  have hg:(lvl x k).cs.drop i=(lvl x k).cs.getD i []::(lvl x k).cs.drop (i+1):=by rw[Lh (by omega),J2,J5 (by omega)];rfl
  rw[zZ hj,hg];simp only[Rel];rw[ih];have e1:=zQV h hk (j:=k+1+i) (by omega) hj;rw[show k+1+i-k=i+1 from by omega]at e1;have ho:(lvl x (k+1+i)).o=at0 x.zA (k+1+i):=rfl;rw[ho,←e1];have e2:∀j,k+1+i+1≤j→j<x.zA.length→ ∀dd,(lvl x (k+1+i)).cs[j-(k+1+i+1)]? =aB dd→img (mul (suf x (k+1))) ((lvl x k).cs.drop (i+1)) dd (zeros (suf x (k+1)).length)=sig (suf x (k+1)) (lvl x k) (((x.zB.getD (k+1+i) []).getD (j-(k+1+i+1)) []).drop (k+1)):=fun j h1 h2 dd hdd=>by
   obtain⟨_,t2,t3⟩:=h.tl (k+1+i) hj;have t:=t3 (j-(k+1+i+1)) (by omega);rw[zFJ t hj (by omega),sig,zEb _ _ _ _ (by omega),show k+1+i+1-(k+1)=i+1 from by omega]
   congr 1
   simp only[lvl,Jm,K1]at hdd
   grind
  have e3:∀j,k+1+i+1≤j→j<x.zA.length→((lvl x k).cs.drop (i+1))[j-(k+1+i+1)]? =aB ((lvl x k).cs.getD (j-(k+1)) [])∧ ∃dd,(lvl x (k+1+i)).cs[j-(k+1+i+1)]? =aB dd:=fun j h1 h2=>by
   have aj:=zAm h hj;refine⟨?_,?_⟩
   ·rw[Kw,show i+1+(j-(k+1+i+1))=j-(k+1)from by omega,J2,J5 (by omega)];rfl
   ·exact⟨_,J5 (by omega)⟩
  constructor
  ·rintro⟨a1,a2,a3,a4⟩
   refine⟨fun j h1 h2=>?_,fun a h1 h2 j h3 h4=>?_⟩
   ·rcases K2 (k+1+i) j with gP|hge
    ·grind
    ·obtain rfl:j=k+1+i:=by omega
     rw[show k+1+i-(k+1)=i from by omega];exact a1
   ·rcases K2 (k+1+i) a with gP|hge
    ·exact a4 a (by omega) h2 j h3 h4
    ·obtain rfl:a=k+1+i:=by omega
     obtain⟨f1,dd,f2⟩:=e3 j (by omega) h4;have:=a2 _ _ _ f1 f2;rw[e2 j (by omega) h4 dd f2]at this;rw[show k+1+i-(k+1)=i from by omega];exact this
  ·rintro⟨a1,a2⟩
   refine⟨?_,fun kk c dd h1 h2=>?_,by grind,by grind⟩
   ·have:=a1 (k+1+i) (by omega) hj
    rw[show k+1+i-(k+1)=i from by omega]at this;exact this
   ·have gP:kk<x.zA.length-(k+1+i+1):=by
     have:=(Jc.1 h1).1;rw[Kj]at this;omega
    have g:=a2 (k+1+i) (by omega) hj (k+1+i+1+kk) (by omega) (by omega);obtain⟨f1,_⟩:=e3 (k+1+i+1+kk) (by omega) (by omega);rw[show k+1+i+1+kk-(k+1+i+1)=kk from by omega]at f1 g;rw[h1]at f1;have f1:=Hk.inj f1;have g2:=e2 (k+1+i+1+kk) (by omega) (by omega) dd (by rw[show k+1+i+1+kk-(k+1+i+1)=kk from by omega];exact h2);rw[show k+1+i+1+kk-(k+1+i+1)=kk from by omega]at g2;rw[g2,f1];rw[show k+1+i-(k+1)=i from by omega]at g;exact g
theorem kK:xX (suf x k)↔xX (suf x (k+1))∧LC x k:=by
 have hr:=zL7 h hk (x.zA.length-(k+1)) 0 (by omega);have hl:=yM x (k+1);rw[U5,Uz]at hr;rw[zZ hk];simp only[xX];rw[hr];constructor
 ·rintro⟨a,⟨b1,b2⟩,c,d⟩
  refine⟨a,⟨b1,b2,c,fun j h1 h2=>?_⟩⟩
  grind
 ·rintro⟨a,b⟩
  refine⟨a,⟨b.c1,b.c2⟩,b.c3,fun j hj=>?_⟩;have:=b.c4 (k+1+j) (by omega) (by omega);rw[show k+1+j-(k+1)=j from by omega]at this
  rwa [hl]
end
theorem zBe{x:SPr}(h:xX (suf x 0))(k:Nat):xX (suf x k):=by
 have:=zDy h k
 grind
def sJ(x:SPr):Prop:=Pres x∧xX (suf x 0)∧sW x
theorem sX{x:SPr}(hl:x.zA.length≤1048576):IsB (zPx x) (sJ x):=by
 unfold zPx;rcases zAa hl with⟨h1,h2⟩|⟨h1,h2⟩
 ·have h6:=h2.os.1
  rw[h1,bs,zJ];unfold f_U;obtain⟨r,r1,r2⟩:=uS (body:=zJv x) (Q:=fun r=> ∃s:Nat,r=(s:Int)∧xX (suf x s)∧(s=0∨ ¬xX (suf x (s-1)))) (fun i s=>i≤x.zA.length∧s=((x.zA.length-i:Nat):Int)∧xX (suf x (x.zA.length-i))) x.zA.length (fun i s hi ⟨_,hs,gK⟩=>by
    subst hs;have hk:x.zA.length-i-1<x.zA.length:=by omega
    have e9:x.zA.length-(i+1)=x.zA.length-i-1:=by omega
    rw[e9];have e8:i+1≤x.zA.length:=by omega
    rw[show x.zA.length-i=x.zA.length-i-1+1 from by omega]at gK ⊢
    have fH:=zFI h2.toPres hk gK;have pq:=kK h2.toPres.w hk
    generalize x.zA.length-i-1=k at*
    unfold zJv;rw[aG (by omega),zJ,zD (by omega) (by omega),bs,show(((k+1:Nat):Int)-1)=(k:Int)from by omega];rcases fH with⟨g1,g2⟩|⟨r,g1,g2,g3⟩
    ·simp_all
    grind) (fun s ⟨_,hs,gK⟩=>by
    rw[Ks]at hs gK;subst hs;unfold zJv
    grind) (s:=(x.zA.length:Int)) ⟨by omega,by rfl,by rw[Qk,vN (by omega)];simp only[xX]⟩
  obtain⟨s,rfl,gK,hs⟩:=r2;rw[r1,bs,bs];cases s with
  |zero=>exact .inl ⟨rfl,h2.toPres,gK,h2⟩
  |succ s=>
   refine .inr ⟨?_,fun q=>?_⟩
   ·congr 1
   ·rcases hs with hs|hs
    ·omega
    ·exact hs (zBe q.2.1 _)
 ·rw[h1,bs,zK]
  exact .inr ⟨rfl,fun q=>h2 q.2.2⟩
theorem zCX{x:SPr}(hl:x.zA.length≤1048576):IsB (zKw x) (sJ x):=by
 unfold zKw;rcases vU hl with⟨h1,h2⟩|⟨h1,h2⟩
 ·have h6:=h2.os.1
  rw[h1,bs,zJ];unfold zUo zUn;rw[zD (by omega) (by omega),bs];obtain⟨r,r1,r2⟩:=uS (body:=zJt x) (Q:=fun r=>(r=.inl ()∧xX (suf x 0))∨ ∃f,r=.inr f∧f.Kind≠0∧ ¬xX (suf x 0)) (fun i s=>i≤x.zA.length∧s=((x.zA.length-i:Nat):Int)-1∧xX (suf x (x.zA.length-i))) x.zA.length (fun i s hi ⟨_,hs,gK⟩=>by
    subst hs;have hk:x.zA.length-i-1<x.zA.length:=by omega
    have e9:x.zA.length-(i+1)=x.zA.length-i-1:=by omega
    rw[e9];have e8:i+1≤x.zA.length:=by omega
    rw[show x.zA.length-i=x.zA.length-i-1+1 from by omega]at gK ⊢
    have fH:=zJU h2.toPres hk gK;have pq:=kK h2.toPres.w hk
    generalize x.zA.length-i-1=k at*
    unfold zJt;rw[show(((k+1:Nat):Int)-1)=(k:Int)from by omega,aG (by omega),zJ];rcases fH with⟨g1,g2⟩|⟨r,g1,g2,g3⟩
    ·left
     rw[g1,bs];simp only
     rw[show((0:Int) != 0)=aE from rfl,zK,zD (by omega) (by omega),bs]
     grind
    ·right
     rw[g1,bs,show(r.Kind != 0)=aD from by grind,zJ];exact⟨_,rfl,.inr ⟨r,rfl,g2,by grind[zBe]⟩⟩) (fun s ⟨_,hs,gK⟩=>by
    rw[Ks]at hs gK;subst hs;unfold zJt
    grind) (s:=(x.zA.length:Int)-1) ⟨by omega,by rfl,by rw[Qk,vN (by omega)];simp only[xX]⟩
  rw[r1,bs];rcases r2 with⟨rfl,q⟩|⟨f,rfl,g1,g2⟩
  ·exact .inl ⟨rfl,h2.toPres,q,h2⟩
  ·simp only
   rw[bs,show(f.Kind==0)=aE from by grind];exact .inr ⟨rfl,fun q=>g2 q.2.1⟩
 ·rw[h1,bs,zK]
  exact .inr ⟨rfl,fun q=>h2 q.2.2⟩
end Go.Pl

namespace Go.Pl
open Go Go.Ab Go.Wk
abbrev Mx:=List (List Int)
def S:Nat→(Nat→Int)→Int
 |0,_=>0
 |n+1,f=>S n f+f n
theorem zCm{n:Nat}{f g:Nat→Int}(h:∀i,i<n→f i=g i):S n f=S n g:=by
 induction n with
 |zero=>rfl
 |succ n ih=>grind[S]
theorem zIS{p:Int}{f g:Nat→Int}:∀{n:Nat},(∀i,i<n→f i%p=g i%p)→S n f%p=S n g%p
 |0,_=>rfl
 |n+1,h=>by simp only[S];rw[Hp,zIS (n:=n) fun i hi=>h i (by omega),h n (by omega),←Hp]
theorem zH8:∀n:Nat,S n (fun _=>0)=0
 |0=>rfl
 |n+1=>by simp only[S,zH8 n];rfl
theorem zSO{f g:Nat→Int}:∀n:Nat,S n (fun i=>f i+g i)=S n f+S n g
 |0=>rfl
 |n+1=>by simp only[S,zSO n];omega
theorem zOs{f:Nat→Int}(a:Int):∀n:Nat,S n (fun i=>f i*a)=S n f*a
 |0=>by simp[S]
 |n+1=>by simp only[S,zOs a n,Int.add_mul]
theorem zJV{f:Nat→Int}(a:Int):∀n:Nat,S n (fun i=>a*f i)=a*S n f
 |0=>by simp[S]
 |n+1=>by simp only[S,zJV a n,Int.mul_add]
theorem zJW{f:Nat→Nat→Int}(m:Nat):∀n:Nat,S n (fun i=>S m (fun j=>f i j))=S m (fun j=>S n (fun i=>f i j))
 |0=>by simp only[S];grind[zH8]
 |n+1=>by simp only[S];rw[zJW m n,zSO]
theorem zFK{f:Nat→Int}{k:Nat}:∀{n:Nat},k<n→(∀i,i<n→i≠k→f i=0)→S n f=f k
 |0,h,_=>by omega
 |n+1,h,hz=>by
  simp only[S]
  by_cases hk:k=n
  ·subst hk
   rw[zCm (g:=fun _=>0) fun i hi=>hz i (by omega) (by omega),zH8];omega
  ·rw[zFK (n:=n) (by omega) fun i hi=>hz i (by omega),hz n (by omega) (by omega)];omega
def mkv(D:Nat)(f:Nat→Int):List Int:=(Jn D).map f
theorem yT(D:Nat)(f:Nat→Int):(mkv D f).length=D:=by simp[mkv]
theorem zCn{D:Nat}{f:Nat→Int}{i:Nat}(h:i<D):(mkv D f)[i]? =aB (f i):=by simp[mkv,h]
theorem xM{D:Nat}{f:Nat→Int}{i:Nat}(h:i<D):at0 (mkv D f) i=f i:=by rw[at0,J2,zCn h];rfl
theorem yO{D:Nat}{f g:Nat→Int}(h:∀i,i<D→f i=g i):mkv D f=mkv D g:=by grind[mkv,L4]
theorem zD0{D:Nat}{f:Nat→Int}{j:Nat}{a:Int}:(mkv D f).set j a=mkv D (fun i=>if i=j then a else f i):=by
 apply K8;intro i;rw[Qg,yT]
 by_cases hi:i<D
 ·by_cases hij:j=i
  ·subst hij;rw[if_pos rfl,if_pos hi,zCn hi,if_pos rfl]
  ·rw[if_neg hij,zCn hi,zCn hi,if_neg fun h=>hij h.symm]
 ·have h1:∀g:Nat→Int,(mkv D g)[i]? =aC:=by grind[yT]
  grind
theorem tC{v:List Int}{D:Nat}(h:v.length=D):v=mkv D (at0 v):=by
 apply K8;intro i
 by_cases hi:i<D
 ·rw[zCn hi,at0,J2,J5 (by omega)];rfl
 grind[yT]
theorem kL(D:Nat):J1 D (0:Int)=mkv D (fun _=>0):=by
 apply K8
 grind[zCn,yT]
abbrev ent(B:Mx)(l j:Nat):Int:=at0 (B.getD l []) j
def tJ(p:Int)(D:Nat)(r:List Int)(B:Mx):List Int:=mkv D fun j=>S D (fun l=>at0 r l*ent B l j)%p
def PM(p:Int)(D:Nat)(A B:Mx):Mx:=A.map fun r=>tJ p D r B
def idM(D:Nat):Mx:=(Jn D).map fun i=>mkv D fun j=>if j=i then 1 else 0
def Row(p:Int)(D:Nat)(r:List Int):Prop:=r.length=D∧ ∀i,i<D→0≤at0 r i∧at0 r i≤p-1
def Mat(p:Int)(D:Nat)(A:Mx):Prop:=A.length=D∧ ∀i,i<D→Row p D (A.getD i [])
theorem zAy{p:Int}{D i:Nat}{A B:Mx}(h:i<A.length):(PM p D A B).getD i []=tJ p D (A.getD i []) B:=by grind[PM]
theorem wP{p:Int}{D:Nat}{A B:Mx}:(PM p D A B).length=A.length:=by simp[PM]
theorem zBt{p:Int}{D:Nat}{A B:Mx}(hp:0<p)(hA:A.length=D):Mat p D (PM p D A B):=by refine⟨by rw[wP,hA],fun i hi=>?_⟩;rw[zAy (by omega)];refine⟨by rw[tJ,yT],fun j hj=>?_⟩;rw[tJ,xM hj];have h1:=L5 (S D fun l=>at0 (A.getD i []) l*ent B l j) (show p≠0 by omega);have h2:=Kr (S D fun l=>at0 (A.getD i []) l*ent B l j) hp;omega
theorem zJX{p:Int}{D i j:Nat}{A B:Mx}(hA:A.length=D)(hi:i<D)(hj:j<D):ent (PM p D A B) i j=S D (fun l=>ent A i l*ent B l j)%p:=by rw[ent,zAy (by omega),tJ,xM hj]
theorem zEc{D:Nat}{A B:Mx}(hA:A.length=D)(hB:B.length=D)(h:∀i,i<D→A.getD i []=B.getD i []):A=B:=by
 apply K8
 grind
theorem zIT{p:Int}{D:Nat}{A B C:Mx}(hA:A.length=D)(hB:B.length=D):PM p D (PM p D A B) C=PM p D A (PM p D B C):=by
 refine zEc (by rw[wP,wP,hA]) (by rw[wP,hA]) fun i hi=>?_
 rw[zAy (A:=PM p D A B) (by rw[wP];omega),zAy (A:=A) (B:=PM p D B C) (by omega)];unfold tJ;refine yO fun j hj=>?_
 have e1:S D (fun l=>at0 ((PM p D A B).getD i []) l*ent C l j)%p=S D (fun l=>S D (fun q=>ent A i q*ent B q l)*ent C l j)%p:=zIS fun l hl=>by
  have:=zJX (p:=p) (B:=B) hA hi hl;simp only[ent]at this ⊢
  rw[this,H1,Li,←H1]
 have e2:S D (fun l=>at0 (A.getD i []) l*ent (PM p D B C) l j)%p=S D (fun q=>ent A i q*S D (fun l=>ent B q l*ent C l j))%p:=zIS fun q hq=>by rw[zJX hB hq hj,H1,Li,←H1]
 rw[e1,e2]
 congr 1
 have e3:(fun l=>S D (fun q=>ent A i q*ent B q l)*ent C l j)=fun l=>S D (fun q=>ent A i q*ent B q l*ent C l j):=funext fun l=>(zOs _ _).symm
 have e4:(fun q=>ent A i q*S D (fun l=>ent B q l*ent C l j))=fun q=>S D (fun l=>ent A i q*ent B q l*ent C l j):=funext fun q=>by rw[←zJV];exact zCm fun l _=>by rw[Int.mul_assoc]
 rw[e3,e4];exact zJW D D
theorem qO(D:Nat):(idM D).length=D:=by simp[idM]
theorem zCo{D i:Nat}(h:i<D):(idM D).getD i []=mkv D fun j=>if j=i then 1 else 0:=by simp[idM,J2,h]
theorem zAj{p:Int}{D:Nat}(hp:2≤p):Mat p D (idM D):=by
 refine⟨qO D,fun i hi=>?_⟩;rw[zCo hi];refine⟨yT _ _,fun j hj=>?_⟩
 grind[xM]
theorem sQ{p a:Int}(h:0≤a∧a≤p-1):a%p=a:=Kl h.1 (by omega)
theorem zH9{p:Int}{D:Nat}{B:Mx}(hB:Mat p D B):PM p D (idM D) B=B:=by
 refine zEc (by rw[wP,qO]) hB.1 fun i hi=>?_
 rw[zAy (by grind[qO]),zCo hi,tJ];obtain⟨h1,h2⟩:=hB.2 i hi;refine Eq.trans (yO fun j hj=>?_) (tC h1).symm;rw[zFK (k:=i) hi fun l hl gf=>by rw[xM hl,if_neg gf,Gb],xM hi,if_pos rfl,Qo]
 grind[sQ]
theorem zIU{p:Int}{D:Nat}{A:Mx}(hA:Mat p D A):PM p D A (idM D)=A:=by
 refine zEc (by rw[wP,hA.1]) hA.1 fun i hi=>?_
 rw[zAy (by rw[hA.1];exact hi),tJ];obtain⟨h1,h2⟩:=hA.2 i hi;refine Eq.trans (yO fun j hj=>?_) (tC h1).symm;rw[zFK (k:=j) hj fun l hl gf=>by rw[ent,zCo hl,xM hj,if_neg (fun h=>gf h.symm),U9],ent,zCo hj,xM hj,if_pos rfl,Gr]
 grind[sQ]
theorem zOt{p:Int}{D i j:Nat}{B:Mx}(hB:Mat p D B)(hi:i<D)(hj:j<D):ixO B (i:Int)=aB (B.getD i [])∧ixO (B.getD i []) (j:Int)=aB (ent B i j)∧(B.getD i []).length=D∧0≤ent B i j∧ent B i j≤p-1:=by
 obtain⟨h1,h2⟩:=hB.2 i hi
 grind[zT]
def acc(p:Int)(D i:Nat)(r:List Int)(B:Mx):List Int:=mkv D fun j=>S i (fun l=>at0 r l*ent B l j)%p
def zC3(p:Int)(D i k:Nat)(r:List Int)(B:Mx):List Int:=mkv D fun j=>if j<k then S (i+1) (fun l=>at0 r l*ent B l j)%p else S i (fun l=>at0 r l*ent B l j)%p
theorem zGV{p:Int}{D i:Nat}{r:List Int}{B:Mx}:zC3 p D i 0 r B=acc p D i r B:=rfl
theorem zGW{p:Int}{D i:Nat}{r:List Int}{B:Mx}:zC3 p D i D r B=acc p D (i+1) r B:=yO (by omega)
theorem zIV{p:Int}{D i k:Nat}{r:List Int}{B:Mx}(hk:k<D){a:Int}(ha:a=(at0 (zC3 p D i k r B) k+at0 r i*ent B i k)%p):(zC3 p D i k r B).set k a=zC3 p D i (k+1) r B:=by
 subst ha;simp only[zC3];rw[zD0,xM hk,if_neg (by omega)];refine yO fun j hj=>?_
 by_cases hjk:j=k
 ·subst hjk
  rw[if_pos rfl,if_pos (by omega)]
  grind[S,Int.emod_add_emod]
 omega
theorem zIW{p:Int}{D i k j:Nat}{r:List Int}{B:Mx}(hp:0<p)(hj:j<D):0≤at0 (zC3 p D i k r B) j∧at0 (zC3 p D i k r B) j≤p-1:=by
 rw[zC3,xM hj];split
 ·have h1:=L5 (S (i+1) fun l=>at0 r l*ent B l j) (show p≠0 by omega)
  have h2:=Kr (S (i+1) fun l=>at0 r l*ent B l j) hp;omega
 ·have h1:=L5 (S i fun l=>at0 r l*ent B l j) (show p≠0 by omega)
  have h2:=Kr (S i fun l=>at0 r l*ent B l j) hp;omega
theorem zFL{p:Int}{D i k:Nat}{r:List Int}{B:Mx}:(zC3 p D i k r B).length=D:=yT _ _
theorem zL8{p:Int}{D i k j:Nat}{r:List Int}{B:Mx}(hj:j<D):ixO (zC3 p D i k r B) (j:Int)=aB (at0 (zC3 p D i k r B) j):=by grind[yK,zFL]
theorem zIX{p:Int}{D:Nat}{r:List Int}{B:Mx}:J1 D (0:Int)=acc p D 0 r B:=by rw[kL];rfl
theorem zGX{a b p:Int}(hp:p≤7)(ha:0≤a∧a≤p-1)(hb:0≤b∧b≤p-1):0≤a*b∧a*b≤36:=by have h1:0≤a*b:=Gx ha.1 hb.1;have h2:a*b≤6*6:=Kq (by omega) (by omega) hb.1 (by omega);omega
section
variable {p:Int}{D:Nat} (hp:Prime p) (hD:D≤8)
 include hp hD
theorem zFM{r:List Int}{B:Mx}(hr:Row p D r)(hB:Mat p D B):f_z p r B (D:Int)=aB (tJ p D r B):=by
 have h7:=hp.pos;have bx:=hB.1;have cu:=hr.1;unfold f_z;rw[yX (by omega),bs,zIX (p:=p) (r:=r) (B:=B)];have:=zP (body:=zKx p r B) (r:=acc p D D r B) (fun i=>(acc p D i r B,(i:Int))) D (fun i hi=>by
  have bM:=hr.2 i hi;unfold zKx;simp only
  rw[cu,bx,yS hi,zJ,zJ];have inner:=zP (body:=zMN p r B (acc p D i r B,(i:Int))) (r:=acc p D (i+1) r B) (fun k=>(zC3 p D i k r B,(k:Int))) D (fun k hk=>by
   obtain⟨b1,b2,b3,b4⟩:=zOt hB hi hk;have ha:=zIW (p:=p) (i:=i) (k:=k) (r:=r) (B:=B) (by omega) hk;have hm:=zGX (by omega) bM b4;unfold zMN;simp only
   rw[zFL,yS hk,zJ,b1,bs,b3,yS hk,zJ,zL8 hk,bs,yK (by omega),bs,bs,b2,bs,zD (by omega) (by omega),bs,zD (by omega) (by omega),bs];have bN:yV (at0 (zC3 p D i k r B) k+at0 r i*ent B i k) p=aB ((at0 (zC3 p D i k r B) k+at0 r i*ent B i k)%p):=by
    unfold yV
    grind
   rw[bN,bs,bs,zD (by omega) (by omega),bs,cs,Jj,zIV hk rfl]) (by
   unfold zMN;simp only
   rw[zFL,uU,zK,zGW])
  rw[zGV,show((0:Nat):Int)=0 from rfl]at inner
  grind[zD]) (by
  unfold zKx
  grind)
 rw[show((0:Nat):Int)=0 from rfl]at this;rw[this,bs];rfl
theorem zHA{a:Int}(h0:0≤a)(_h1:a≤1000):zMT a p=aB (a%p):=by have _:=hD;have h7:=hp.pos;have e1:=L5 a (show p≠0 by omega);have e2:=Kr a (show 0<p by omega);unfold zMT yV;rw[if_neg (by omega),bs,H9 h0,zD (by omega) (by omega),bs,if_neg (by omega),bs,H9 (by omega)];simp
theorem zEd{i:Nat}{r:List Int}{B:Mx}(hi:i<D)(hr:Row p D r)(hB:Mat p D B):zR7 (acc p D i r B) (B.getD i []) (at0 r i) p=aB (acc p D (i+1) r B):=by
 have h7:=hp.pos;have bM:=hr.2 i hi;unfold zR7;have hl:(acc p D i r B).length=D:=yT _ _;have inner:=zP (body:=zJx (acc p D i r B) (B.getD i []) (at0 r i) p) (r:=acc p D (i+1) r B) (fun k=>(zC3 p D i k r B,(k:Int))) D (fun k hk=>by
  obtain⟨b1,b2,b3,b4⟩:=zOt hB hi hk;have ha:=zIW (p:=p) (i:=i) (k:=k) (r:=r) (B:=B) (by omega) hk;have hm:=zGX (by omega) bM b4;unfold zJx;simp only
  rw[hl,yS hk,zJ,zL8 hk,bs,b2,bs,zD (by omega) (by omega),bs,zD (by omega) (by omega),bs,zHA hp hD (by omega) (by omega),bs,bs,zD (by omega) (by omega),bs,cs,Jj,zIV hk rfl]) (by
  unfold zJx;simp only
  rw[hl,uU,zK,zGW])
 rw[zGV,show((0:Nat):Int)=0 from rfl]at inner
 grind
theorem zEe{r:List Int}{B:Mx}{q:Int}(hr:Row p D r)(hB:Mat p D B)(hq:q=(D:Int)):zR8 r (yE.mk p q B)=aB (tJ p D r B):=by
 subst hq;have cu:=hr.1;unfold zR8;simp only
 rw[yX (by omega),bs,zIX (p:=p) (r:=r) (B:=B)];have:=zP (body:=zJy r (yE.mk p (D:Int) B)) (r:=acc p D D r B) (fun i=>(acc p D i r B,(i:Int))) D (fun i hi=>by
  have bx:=hB.1;unfold zJy;simp only
  rw[cu,yS hi,zJ,yK (by omega),bs,zT [] (by omega),bs,zEd hp hD hi hr hB,bs,zD (by omega) (by omega),bs,cs]) (by
  unfold zJy
  grind)
 rw[show((0:Nat):Int)=0 from rfl]at this;rw[this,bs];rfl
theorem zGY{A B:Mx}{i:Nat}(hi:i<A.length):(PM p D A B).take i++[tJ p D (A.getD i []) B]=(PM p D A B).take (i+1):=by
 have _:=hp;have _:=hD;rw[Kb (by grind[wP])]
 congr 2
 have:=zAy (p:=p) (D:=D) (B:=B) hi
 grind
theorem jW{A B:Mx}(hA:Mat p D A)(hB:Mat p D B):f_K p A B (D:Int)=aB (PM p D A B):=by
 have fj:=hA.1;unfold f_K;have:=zP (body:=zKy p A B (D:Int)) (r:=PM p D A B) (fun i=>((PM p D A B).take i,(i:Int))) D (fun i hi=>by
  unfold zKy;simp only
  rw[fj,yS hi,zJ,zT [] (by omega),bs,zFM hp hD (hA.2 i hi) hB,bs,zX (by rw[K7,wP];simp;omega),bs,zD (by omega) (by omega),bs,cs,zGY hp hD (by omega)]) (by
  unfold zKy;simp only
  rw[fj,uU,zK,Jk (by grind[wP])])
 grind
theorem zGu{A B:Mx}{q:Int}(hA:Mat p D A)(hB:Mat p D B):zR9 (yE.mk p q A) (yE.mk p (D:Int) B)=aB (yE.mk p (D:Int) (PM p D A B)):=by
 have fj:=hA.1;unfold zR9;have:=zP (body:=zJz (yE.mk p q A) (yE.mk p (D:Int) B)) (r:=PM p D A B) (fun i=>((PM p D A B).take i,(i:Int))) D (fun i hi=>by
  unfold zJz;simp only
  rw[fj,yS hi,zJ,zT [] (by omega),bs,zEe hp hD (hA.2 i hi) hB rfl,bs,zX (by rw[K7,wP];simp;omega),bs,zD (by omega) (by omega),bs,cs,zGY hp hD (by omega)]) (by
  unfold zJz;simp only
  rw[fj,uU,zK,Jk (by grind[wP])])
 grind
theorem zIY{i:Nat}(_hi:i<D):(J1 D (0:Int)).set i 1=mkv D fun j=>if j=i then 1 else 0:=by have _:=hp;have _:=hD;rw[kL,zD0]
theorem zL9{i:Nat}(hi:i<D):(idM D).take i++[mkv D fun j=>if j=i then 1 else 0]=(idM D).take (i+1):=by
 have _:=hp;have _:=hD;rw[Kb (by grind[qO])]
 congr 2
 have:=zCo hi
 grind
theorem zFN:zRv (D:Int)=aB (idM D):=by
 unfold zRv;have:=zP (body:=zLW (D:Int)) (r:=idM D) (fun i=>((idM D).take i,(i:Int))) D (fun i hi=>by
  unfold zLW;simp only
  rw[yS hi,zJ,yX (by omega),bs,tI,Ka,if_pos hi,bs,Jj,zIY hp hD hi,zX (by grind),bs,zD (by omega) (by omega),bs,cs,zL9 hp hD hi]) (by
  unfold zLW;simp only
  rw[uU,zK,Jk (by grind[qO])])
 grind
theorem zGv:zR6 p (D:Int)=aB (yE.mk p (D:Int) (idM D)):=by
 unfold zR6;have:=zP (body:=zHe (D:Int)) (r:=idM D) (fun i=>((idM D).take i,(i:Int))) D (fun i hi=>by
  unfold zHe;simp only
  rw[yS hi,zJ,yX (by omega),bs,tI,Ka,if_pos hi,bs,Jj,zIY hp hD hi,zX (by grind),bs,zD (by omega) (by omega),bs,cs,zL9 hp hD hi]) (by
  unfold zHe;simp only
  rw[uU,zK,Jk (by grind[qO])])
 grind
end
end Go.Pl

namespace Go.Pl
open Go Go.Ab Go.Wk Go.Pc
def nw:Nat→List Int→List Nat
 |_,[]=>[]
 |o,a::v=>J1 a.toNat o++nw (o+1) v
theorem zCp:∀(o:Nat)(u v:List Int),nw o (u++v)=nw o u++nw (o+u.length) v
 |o,[],v=>by simp[nw]
 |o,a::u,v=>by
  simp only[Hn,nw,zCp (o+1) u v,Je,Jw]
  grind
theorem zLA{v:List Int}{i:Nat}(h:i<v.length):nw 0 (v.take (i+1))=nw 0 (v.take i)++J1 (at0 v i).toNat i:=by
 rw[Kb h,zCp,K7,Qs (by omega),J7];simp only[nw,Jf]
 grind
theorem zLB{n:Nat}:∀(o:Nat)(v:List Int),o+v.length≤n→ ∀w∈nw o v,w<n
 |o,[],_,w,h=>by grind[nw]
 |o,a::v,hv,w,h=>by
  simp only[nw,Kd,Jw]at h hv;rcases h with h|h
  ·grind
  ·exact zLB (o+1) v (by omega) w h
theorem zFO:∀(o:Nat)(v:List Int),(∀i,i<v.length→at0 v i≤6)→(nw o v).length≤6*v.length
 |o,[],_=>by simp[nw]
 |o,a::v,h=>by
  have h0:=h 0 (by simp);have:=zFO (o+1) v fun i hi=>by
   have:=h (i+1) (by grind)
   grind
  simp only[at0,Ly]at h0
  grind[nw]
def wM(p:Int)(D:Nat)(A:List Mx)(ws:List Nat)(B:Mx):Mx:=ws.foldl (fun B w=>PM p D B (A.getD w [])) B
theorem zEf{p:Int}{D:Nat}{A:List Mx}{u v:List Nat}{B:Mx}:wM p D A (u++v) B=wM p D A v (wM p D A u B):=by simp[wM,List.foldl_append]
theorem zEg{p:Int}{D:Nat}{A:List Mx}{w:Nat}:∀(k:Nat)(B:Mx),wM p D A (J1 k w) B=iter k (fun B=>PM p D B (A.getD w [])) B
 |0,_=>rfl
 |k+1,B=>by rw[Kv];show wM p D A (J1 k w) (PM p D B (A.getD w []))=_;rw[zEg k];rfl
theorem zEh{p:Int}{D:Nat}{A:List Mx}(hp:0<p):∀(ws:List Nat){B:Mx},Mat p D B→Mat p D (wM p D A ws B)
 | [],_,hB=>hB
 |_w::ws,_,hB=>zEh hp ws (zBt hp hB.1)
theorem zOu{p:Int}{D:Nat}{A:List Mx}(hp:0<p){C:Mx}(hC:C.length=D):∀(ws:List Nat){B:Mx},Mat p D B→wM p D A ws (PM p D C B)=PM p D C (wM p D A ws B)
 | [],_,_=>rfl
 |w::ws,B,hB=>by show wM p D A ws (PM p D (PM p D C B) (A.getD w []))=PM p D C (wM p D A ws (PM p D B (A.getD w [])));rw[zIT hC hB.1,zOu hp hC ws (zBt hp hB.1)]
structure MOk (n:Nat) (m:zG) (D:Nat):Prop where
 p:Prime m.Prime
 d:m.Dim=(D:Int)
 d1:1≤D
 d3:D≤3
 len:m.zE.length=n
 mat:∀i,i<n→Mat m.Prime D (m.zE.getD i [])
structure zTT (n:Nat) (m:zG) (D:Nat):Prop where
 p:Prime m.Prime
 d:m.Dim=(D:Int)
 d3:D≤30
 len:m.zE.length=n
 mat:∀i,i<n→Mat m.Prime D (m.zE.getD i [])
theorem MOk.x{n D:Nat}{m:zG}(h:MOk n m D):zTT n m D:=⟨h.p,h.d,by have:=h.d3;omega,h.len,h.mat⟩
structure zTU (n:Nat) (m:zG) (D:Nat):Prop where
 p:Prime m.Prime
 d3:D≤200
 len:m.zE.length=n
 mat:∀i,i<n→Mat m.Prime D (m.zE.getD i [])
theorem MOk.b{n D:Nat}{m:zG}(h:MOk n m D):zTU n m D:=⟨h.p,by have:=h.d3;omega,h.len,h.mat⟩
section
variable {n D:Nat}{m:zG} (hm:MOk n m D) (hn:n≤14)
 include hm hn
theorem zIZ{v:List Int}(hl:v.length=n)(hv:∀i,i<n→0≤at0 v i∧at0 v i≤6):f_Y m v=aB (wM m.Prime D m.zE (nw 0 v) (idM D)):=by
 have h7:=hm.p.pos;have h3:=hm.d3;have gc:=hm.len;unfold f_Y;rw[hm.d,zFN hm.p (by omega),bs];have hI:∀i,Mat m.Prime D (wM m.Prime D m.zE (nw 0 (v.take i)) (idM D)):=by grind[zEh,zAj]
 have:=zP (body:=zRx m v) (r:=wM m.Prime D m.zE (nw 0 v) (idM D)) (fun i=>(wM m.Prime D m.zE (nw 0 (v.take i)) (idM D),(i:Int))) n (fun i hi=>by
  have hvi:=hv i hi;unfold zRx;simp only
  rw[hl,yS hi,zJ];rw[vS (S:=Mat m.Prime D) (body:=zRw m v (wM m.Prime D m.zE (nw 0 (v.take i)) (idM D),(i:Int))) (fun B=>B) (fun B=>PM m.Prime D B (m.zE.getD i [])) (at0 v i) hvi.1 (fun B hB=>zBt (by omega) hB.1) (fun B q hB hq=>by
   unfold zRw;simp only
   rw[yK (by omega),bs,aG hq,zJ,zT [] (by omega),bs,hm.d,jW hm.p (by omega) hB (hm.mat i hi),bs,zD (by omega) (by omega),bs,cs]) (fun B hB=>by
   unfold zRw;simp only
   rw[yK (by omega),bs,aF (by omega),zK]) (hI i),bs,zD (by omega) (by omega),bs,cs]
  grind[zLA,zEf,zEg]) (by
  unfold zRx
  grind)
 rw[show((0:Nat):Int)=0 from rfl,Lb]at this
 grind[nw,wM]
abbrev enW(ws:List Nat):List Int:=ws.map fun(w:Nat)=>(w:Int)+1
theorem zGw{i:Nat}(hi:i<n):zMS m (i:Int)=aB (yE.mk m.Prime (D:Int) (m.zE.getD i [])):=by have _:=hn;have gc:=hm.len;unfold zMS;rw[zT [] (by omega),bs,hm.d]
theorem zCE{ws:List Nat}(hw:∀w∈ws,w<n)(hl:ws.length≤1000000):f_Z m (enW ws)=aB (yE.mk m.Prime (D:Int) (wM m.Prime D m.zE ws (idM D))):=by
 have h7:=hm.p.pos;have h3:=hm.d3;unfold f_Z;rw[hm.d,zGv hm.p (by omega),bs];have hI:∀i,Mat m.Prime D (wM m.Prime D m.zE (ws.take i) (idM D)):=by grind[zEh,zAj]
 have hel:(enW ws).length=ws.length:=by simp
 have:=zP (body:=zP5 m (enW ws)) (r:=(m.Prime,(D:Int),wM m.Prime D m.zE ws (idM D))) (fun i=>(m.Prime,(D:Int),wM m.Prime D m.zE (ws.take i) (idM D),(i:Int))) ws.length (fun i hi=>by
  have hwi:=hw ws[i] (Kt hi);unfold zP5;simp only
  rw[hel,yS hi,zJ,tI,Jm,J5 hi];simp only[Gt];rw[bs,zD (by omega) (by omega),bs,show((ws[i]:Nat):Int)+1-1=((ws[i]:Nat):Int)from by omega,zGw hm hn hwi,bs,zGu hm.p (by omega) (hI i) (hm.mat _ hwi),bs,zD (by omega) (by omega),bs,cs,Kb hi,zEf];rfl) (by
  unfold zP5;simp)
 rw[show((0:Nat):Int)=0 from rfl,Lb]at this
 grind[wM]
end
theorem zB6{v:List Int}(hl:v.length≤14)(hv:∀i,i<v.length→0≤at0 v i∧at0 v i≤6):f_O v=aB (enW (nw 0 v)):=by
 unfold f_O;have gc:∀i,(nw 0 (v.take i)).length≤84:=fun i=>by
  have:=zFO 0 (v.take i) (by grind)
  grind
 have:=zP (body:=zP1 v) (r:=enW (nw 0 v)) (fun i=>(enW (nw 0 (v.take i)),(i:Int))) v.length (fun i hi=>by
  have hvi:=hv i hi;have hli:=gc i;unfold zP1;simp only
  rw[yS hi,zJ,yK hi,bs];have inner:=zP (body:=zP0 (enW (nw 0 (v.take i)),(i:Int)) (at0 v i)) (r:=enW (nw 0 (v.take (i+1)))) (fun k=>(enW (nw 0 (v.take i)++J1 k i),(k:Int))) (at0 v i).toNat (fun k hk=>by
   unfold zP0;simp only
   rw[aG (by omega),zJ,zD (by omega) (by omega),bs,zX (by grind),bs,zD (by omega) (by omega),bs,cs]
   congr 3
   rw[Ue,←Je];simp) (by
   unfold zP0;simp only
   rw[aF (by omega),zK,zLA hi])
  rw[show((0:Nat):Int)=0 from rfl,Hv,Jf]at inner
  grind[zD]) (by
  unfold zP1;simp)
 rw[show((0:Nat):Int)=0 from rfl,Lb]at this;simp only[nw,enW,Gf]at this
 grind
theorem zOv{v o:Int}(h:zPz 1 (IntKind.wrap .u64 o)=aB (0,o)):zPz (IntKind.wrap .u64 (([v]:List Int).length:Int)) (IntKind.wrap .u64 o)=aB (0,o):=by rw[show IntKind.wrap .u64 (([v]:List Int).length:Int)=1 from by rfl];exact h
theorem zJa{v o:Int}(ho:Prime o):f_u [v] o=aB (J1 o.toNat v):=by
 unfold f_u;rcases ho with rfl|rfl|rfl|rfl
 ·have h:=zP (body:=zEH) (r:=[v,v]) (fun i=>match i with|0=>([v,0],1)|_=>([v,v],2)) 1 (fun i hi=>by
   match i,hi with
   |0,_=>rfl) (by rfl)
  rw[zOv (by rfl),bs];have hl:zU (IntKind.wrap .i64 2)=aB 2:=by rfl
  simp only[hl,bs];rw[show decide ((2:Int)<0)=aE from rfl,zK,show decide ((0:Int)> 0)=aE from rfl,zK,show decide ((2:Int)> 9223372036854775807)=aE from by decide,zK]
  grind[vF]
 ·have h:=zP (body:=zEH) (r:=[v,v,v]) (fun i=>match i with|0=>([v,0,0],1)|1=>([v,v,0],2)|_=>([v,v,v],3)) 2 (fun i hi=>by
   match i,hi with
   |0,_=>rfl
   |1,_=>rfl) (by rfl)
  rw[zOv (by rfl),bs];have hl:zU (IntKind.wrap .i64 3)=aB 3:=by rfl
  simp only[hl,bs];rw[show decide ((3:Int)<0)=aE from rfl,zK,show decide ((0:Int)> 0)=aE from rfl,zK,show decide ((3:Int)> 9223372036854775807)=aE from by decide,zK]
  grind[vF]
 ·have h:=zP (body:=zEH) (r:=[v,v,v,v,v]) (fun i=>match i with|0=>([v,0,0,0,0],1)|1=>([v,v,0,0,0],2)|2=>([v,v,v,v,0],4)|_=>([v,v,v,v,v],5)) 3 (fun i hi=>by
   match i,hi with
   |0,_=>rfl
   |1,_=>simp[zEH,zN,vF,rng,inR]
   |2,_=>rfl) (by rfl)
  rw[zOv (by rfl),bs];have hl:zU (IntKind.wrap .i64 5)=aB 5:=by rfl
  simp only[hl,bs];rw[show decide ((5:Int)<0)=aE from rfl,zK,show decide ((0:Int)> 0)=aE from rfl,zK,show decide ((5:Int)> 9223372036854775807)=aE from by decide,zK];have e2:vF (J1 5 (0:Int)) 0 (([v]:List Int).take ((J1 5 (0:Int)).length-0))=[v,0,0,0,0]:=by rfl
  grind
 ·have h:=zP (body:=zEH) (r:=[v,v,v,v,v,v,v]) (fun i=>match i with|0=>([v,0,0,0,0,0,0],1)|1=>([v,v,0,0,0,0,0],2)|2=>([v,v,v,v,0,0,0],4)|_=>([v,v,v,v,v,v,v],7)) 3 (fun i hi=>by
   match i,hi with
   |0,_=>rfl
   |1,_=>simp[zEH,zN,vF,rng,inR]
   |2,_=>rfl) (by rfl)
  rw[zOv (by rfl),bs];have hl:zU (IntKind.wrap .i64 7)=aB 7:=by rfl
  simp only[hl,bs];rw[show decide ((7:Int)<0)=aE from rfl,zK,show decide ((0:Int)> 0)=aE from rfl,zK,show decide ((7:Int)> 9223372036854775807)=aE from by decide,zK];have e2:vF (J1 7 (0:Int)) 0 (([v]:List Int).take ((J1 7 (0:Int)).length-0))=[v,0,0,0,0,0,0]:=by rfl
  simp_all
end Go.Pl

namespace Go.Pl
open Go Go.Ab Go.Wk Go.Pc
theorem IsB.b{o:Option Bool}{P:Prop}(h:IsB o P):IsB (o.bind fun r=>aB r) P:=by grind
theorem zE1{p:Int}{D:Nat}{r:List Int}(hp:Prime p)(hD:D≤8):IsB (zPy r p (D:Int)) (Row p D r):=by
 have h7:=hp.pos;unfold zPy
 by_cases h:r.length=D
 ·rw[zAC (by omega),zK]
  refine(tP r.length (fun i=>0≤at0 r i∧at0 r i≤p-1) rfl (fun i hi _=>?_) ?_).iff ⟨fun g=>⟨h,by grind⟩,fun g=>by rw[h];exact g.2⟩
  ·refine wT (uF _ _ _) (by omega) ?_
   unfold zLY;rw[yS hi,zJ,yK hi,bs,zD (by omega) (by omega),bs]
  ·unfold zLY
   simp
 ·rw[zAx (by omega),zJ]
  exact .inr ⟨rfl,fun g=>h g.1⟩
theorem zE2{p:Int}{D:Nat}{r:List Int}(hp:Prime p)(hD:D≤8):IsB (zRu p (D:Int) r) (Row p D r):=by
 have h7:=hp.pos;unfold zRu
 by_cases h:r.length=D
 ·rw[zAC (by omega),zK]
  refine(tP r.length (fun i=>0≤at0 r i∧at0 r i≤p-1) rfl (fun i hi _=>?_) ?_).iff ⟨fun g=>⟨h,by grind⟩,fun g=>by rw[h];exact g.2⟩
  ·refine wT (uZ _ _ _) (by omega) ?_
   unfold zPf;rw[yS hi,zJ,yK hi,bs,zD (by omega) (by omega),bs]
  ·unfold zPf
   simp
 ·rw[zAx (by omega),zJ]
  exact .inr ⟨rfl,fun g=>h g.1⟩
theorem zM2{p:Int}{D:Nat}{B:Mx}(hp:Prime p)(hD:D≤8):IsB (zUp p (D:Int) B) (Mat p D B):=by
 unfold zUp
 by_cases h:B.length=D
 ·rw[zAC (by omega),zK]
  refine(tP B.length (fun i=>Row p D (B.getD i [])) rfl (fun i hi _=>?_) ?_).iff ⟨fun g=>⟨h,by grind⟩,fun g=>by rw[h];exact g.2⟩
  ·refine wT (zE2 hp hD) (by omega) ?_
   unfold zPg;rw[yS hi,zJ,zT [] hi,bs]
  ·unfold zPg
   simp
 ·rw[zAx (by omega),zJ]
  exact .inr ⟨rfl,fun g=>h g.1⟩
theorem zGx{p:Int}{D:Nat}{B:Mx}(hp:Prime p)(hD:D≤8)(hB:B.length=D):IsB (zR5 (yE.mk p (D:Int) B)) (Mat p D B):=by
 unfold zR5;simp only
 rcases zBo p with⟨h1,_⟩|⟨_,h2⟩
 ·rw[h1,bs,J6,zK]
  rcases uF (D:Int) 0 8 with⟨h3,_⟩|⟨_,h4⟩
  ·rw[h3,bs,J6,zK,aF (by omega),zK]
   refine(tP (body:=zJw (yE.mk p (D:Int) B)) D (fun i=>Row p D (B.getD i [])) rfl (fun i hi _=>?_) ?_).iff ⟨fun g=>⟨hB,g⟩,fun g=>g.2⟩
   ·refine wT (zE1 hp hD) (by omega) ?_
    unfold zJw;simp only
    rw[hB,yS hi,zJ,zT [] (by omega),bs]
   ·unfold zJw
    grind
  omega
 grind
theorem zFP{A B:Mx}(hA:A.length≤1000)(h:∀r∈A,r.length≤1000):zUq A B=aB (A==B):=
 zII (t:=f_J) (body:=zSV A B) rfl (fun _=>rfl) (by omega) (by grind[zEa])
theorem zGy{A B:Mx}(hA:A.length≤1000)(h:∀r∈A,r.length≤1000):zRA A B=aB (A==B):=by unfold zRA;rw[zII (f:=zUw A B) (t:=f_T) (body:=zP6 A B) rfl (fun _=>rfl) (by omega) (by grind[zBs]),bs]
theorem Mat.small{p:Int}{D:Nat}{A:Mx}(h:Mat p D A)(hD:D≤8):A.length≤1000∧ ∀r∈A,r.length≤1000:=by
 refine⟨by have:=h.1;omega,fun r hr=>?_⟩;obtain⟨i,hi,rfl⟩:=Jv.1 hr;have:=h.2 i (by rw[←h.1];exact hi);rw[J2,J5 hi]at this;have:=this.1
 grind
def zCY(x:SPr)(m:zG)(D:Nat):Prop:=
 ∀i,i<x.zA.length→wM m.Prime D m.zE (J1 (at0 x.zA i).toNat i) (idM D)=wM m.Prime D m.zE (nw 0 (x.zF.getD i [])) (idM D)∧
  ∀j,i+1≤j→j<x.zA.length→PM m.Prime D (m.zE.getD j []) (m.zE.getD i [])=PM m.Prime D (m.zE.getD i []) (wM m.Prime D m.zE (nw 0 ((x.zB.getD i []).getD (j-(i+1)) [])) (idM D))
theorem zAn{x:SPr}{v:List Int}{i:Nat}(ho:Os x.zA)(h:Exp x.zA v i):v.length=x.zA.length∧ ∀j,j<x.zA.length→0≤at0 v j∧at0 v j≤6:=by have h1:=h.1.1;refine⟨h1,fun j hj=>?_⟩;have:=h.1.2 j (by omega);have:=(ho.2 j hj).pos;omega
section
variable {x:SPr}{m:zG}{D:Nat} (h:Pres x) (hm:MOk x.zA.length m D)
 include h hm
theorem zM3{i:Nat}(hi:i<x.zA.length):(x.zF.getD i []).length=x.zA.length∧ ∀j,j<x.zA.length→0≤at0 (x.zF.getD i []) j∧at0 (x.zF.getD i []) j≤6:=have _:=hm;zAn h.os (h.tl i hi).1
theorem zJY{i j:Nat}(hi:i<x.zA.length)(hj:j<(x.zB.getD i []).length):((x.zB.getD i []).getD j []).length=x.zA.length∧ ∀q,q<x.zA.length→0≤at0 ((x.zB.getD i []).getD j []) q∧at0 ((x.zB.getD i []).getD j []) q≤6:=have _:=hm;zAn h.os ((h.tl i hi).2.2 j hj)
theorem zM4:IsB ((zC (zR1 x m) 0).bind fun r=>match r with|.inl _=>aB aD|.inr r=>aB r) (zCY x m D):=by
 have h6:=h.os.1;have h7:=hm.p.pos;have h3:=hm.d3;have gc:=hm.len;refine tP x.zA.length (fun i=>wM m.Prime D m.zE (J1 (at0 x.zA i).toNat i) (idM D)=wM m.Prime D m.zE (nw 0 (x.zF.getD i [])) (idM D)∧
  ∀j,i+1≤j→j<x.zA.length→PM m.Prime D (m.zE.getD j []) (m.zE.getD i [])=PM m.Prime D (m.zE.getD i []) (wM m.Prime D m.zE (nw 0 ((x.zB.getD i []).getD (j-(i+1)) [])) (idM D))) rfl (fun i hi _=>?_) ?_
 ·have eu:=(h.os.2 i hi).pos
  have eO:=h.pl;have gC:=h.cl;obtain⟨p1,p2⟩:=zM3 h hm hi;have t2:=(h.tl i hi).2.1;have hI:=zAj (p:=m.Prime) (D:=D) h7.1;unfold zR1;rw[yS hi,zJ,hm.d,zFN hm.p (by omega),bs];rw[vS (S:=Mat m.Prime D) (body:=zRz x m (i:Int)) (fun B=>B) (fun B=>PM m.Prime D B (m.zE.getD i [])) (at0 x.zA i) (by omega) (fun B hB=>zBt (by omega) hB.1) (fun B q hB hq=>by
   unfold zRz;simp only
   rw[yK hi,bs,aG hq,zJ,zT [] (by omega),bs,hm.d,jW hm.p (by omega) hB (hm.mat i hi),bs,zD (by omega) (by omega),bs,cs]) (fun B hB=>by
   unfold zRz;simp only
   rw[yK hi,bs,aF (by omega),zK]) hI,bs,zT [] (by omega),bs,zIZ hm (by omega) p1 p2,bs,←zEg]
  have hs:=(zEh (p:=m.Prime) (D:=D) (A:=m.zE) (by omega) (J1 (at0 x.zA i).toNat i) hI).small (by omega);rw[zFP hs.1 hs.2,bs]
  by_cases hq:wM m.Prime D m.zE (J1 (at0 x.zA i).toNat i) (idM D)=wM m.Prime D m.zE (nw 0 (x.zF.getD i [])) (idM D)
  ·rw[show(wM m.Prime D m.zE (J1 (at0 x.zA i).toNat i) (idM D)==wM m.Prime D m.zE (nw 0 (x.zF.getD i [])) (idM D))=aD from by grind,J6,zK,zD (by omega) (by omega),bs,cs]
   rcases chk (body:=zR0 x m (i:Int)) x.zA.length (i+1) (by omega) (fun j=>PM m.Prime D (m.zE.getD j []) (m.zE.getD i [])=PM m.Prime D (m.zE.getD i []) (wM m.Prime D m.zE (nw 0 ((x.zB.getD i []).getD (j-(i+1)) [])) (idM D))) (fun _=>aE) (fun j h1 h2 _=>by
     obtain⟨c1,c2⟩:=zJY h hm (j:=j-(i+1)) hi (by omega);have hjm:=hm.mat j h2;have him:=hm.mat i hi;have hw:=zEh (p:=m.Prime) (D:=D) (A:=m.zE) (by omega) (nw 0 ((x.zB.getD i []).getD (j-(i+1)) [])) hI;have hs:=(zBt (p:=m.Prime) (B:=m.zE.getD i []) (by omega) hjm.1).small (by omega);refine wT (o:=aB (PM m.Prime D (m.zE.getD j []) (m.zE.getD i [])==PM m.Prime D (m.zE.getD i []) (wM m.Prime D m.zE (nw 0 ((x.zB.getD i []).getD (j-(i+1)) [])) (idM D)))) (IsB.of_bool (by simp)) (by omega) ?_;unfold zR0;rw[yS h2,zJ,zT (i:=j) [] (by omega),bs,zT (i:=i) [] (by omega),bs,hm.d,jW hm.p (by omega) hjm him,bs,bs,zT (i:=i) [] (by omega),bs,zD (by omega) (by omega),bs,zD (by omega) (by omega),bs,show(j:Int)-(i:Int)-1=((j-(i+1):Nat):Int)from by omega,zT [] (by omega),bs,zIZ hm (by omega) c1 c2,bs,jW hm.p (by omega) him hw,bs,zFP hs.1 hs.2]) (by
     unfold zR0;simp)with⟨g1,g2⟩|⟨j,j1,j2,g1,g2⟩
   ·grind
   ·right
    rw[g1,bs]
    grind
  grind
 ·unfold zR1
  simp
end
def zOw(x:SPr)(m:zG):Prop:=sJ x∧ ∃D,MOk x.zA.length m D∧zCY x m D
theorem zJZ{x:SPr}{m:zG}(h2:Pres x):IsB (f_A x m) (∃D,MOk x.zA.length m D∧zCY x m D):=by
 have h6:=h2.os.1;unfold f_A;rcases zFE m.Prime with⟨p1,p2⟩|⟨p1,p2⟩
 ·rw[p1,bs,J6,zK]
  rcases uZ m.Dim 1 3 with⟨d1,d2⟩|⟨d1,d2⟩
  ·rw[d1,bs,J6,zK]
   obtain⟨D,hD⟩:∃D:Nat,m.Dim=(D:Int):=⟨m.Dim.toNat,by omega⟩
   by_cases gc:m.zE.length=x.zA.length
   ·rw[zAC (by omega),zK]
    rcases chk (body:=zRy x m) x.zA.length 0 (Kc _) (fun i=>Mat m.Prime D (m.zE.getD i [])) (fun _=>aE) (fun i _ hi _=>by
      refine wT (zM2 p2 (D:=D) (by omega)) (by omega) ?_;unfold zRy;rw[yS hi,zJ,zT [] (by omega),bs,hD]) (by
      unfold zRy;simp)with⟨g1,g2⟩|⟨i,_,hi,g1,g2⟩
    ·rw[show((0:Nat):Int)=0 from rfl]at g1
     have hm:MOk x.zA.length m D:=⟨p2,hD,by omega,by omega,gc,by grind⟩;rw[g1,bs];refine IsB.iff (Q:=∃D,MOk x.zA.length m D∧zCY x m D) (zM4 h2 hm) ⟨fun k2=>⟨D,hm,k2⟩,fun⟨D',gu,hr⟩=>?_⟩;have:D'=D:=by have:=gu.d;omega
     grind
    ·rw[show((0:Nat):Int)=0 from rfl]at g1
     rw[g1,bs];refine .inr ⟨rfl,fun⟨D',gu,_⟩=>g2 ?_⟩;have:D'=D:=by have:=gu.d;omega
     rw[←this];exact gu.mat i hi
   ·rw[zAx (by omega),zJ]
    exact .inr ⟨rfl,fun⟨D',gu,_⟩=>gc gu.len⟩
  ·rw[d1,bs,Jx,zJ]
   exact .inr ⟨rfl,fun⟨D',gu,_⟩=>d2 (by have:=gu.d;have:=gu.d1;have:=gu.d3;omega)⟩
 ·rw[p1,bs,Jx,zJ]
  exact .inr ⟨rfl,fun⟨D',gu,_⟩=>p2 gu.p⟩
theorem zCF{x:SPr}{m:zG}(hl:x.zA.length≤1048576):IsB (zR2 x m) (zOw x m):=by
 unfold zR2;rcases zCX hl with⟨h1,h2⟩|⟨h1,h2⟩
 ·rw[h1,bs,zJ]
  exact IsB.iff (Q:=zOw x m) (IsB.b (zJZ h2.1)) ⟨fun g=>⟨h2,g⟩,fun g=>g.2⟩
 ·rw[h1,bs,zK]
  exact .inr ⟨rfl,fun g=>h2 g.1⟩
end Go.Pl

namespace Go.Pl
open Go Go.Ab Go.Wk Go.Pc
abbrev Rl:=List Nat×List Nat
def r1(x:SPr)(i:Nat):Rl:=(J1 (at0 x.zA i).toNat i,nw 0 (x.zF.getD i []))
def r2(x:SPr)(i j:Nat):Rl:=([i+j+1,i],i::nw 0 ((x.zB.getD i []).getD j []))
def R2(x:SPr)(i:Nat):List Rl:=(Jn (x.zB.getD i []).length).map (r2 x i)
def sY(x:SPr):List Rl:=(Jn x.zA.length).map (r1 x)++(Jn x.zA.length).flatMap (R2 x)
abbrev enR(q:Rl):List Int×List Int:=(enW q.1,enW q.2)
section
variable {x:SPr} (h:Pres x)
 include h
theorem zTV{i:Nat}(hi:i<x.zA.length):(R2 x i).length≤14:=by
 have:=(h.tl i hi).2.1;have:=h.os.1
 grind[R2]
theorem zKa:∀i,i≤x.zA.length→((Jn i).flatMap (R2 x)).length≤14*i
 |0,_=>by simp
 |i+1,hi=>by
  have:=zKa i (by omega)
  grind[zTV,L8]
theorem zQW{k i:Nat}:enW (J1 k i)=J1 k ((i:Int)+1):=by have _:=h;simp
theorem zCZ:f_x x=aB ((sY x).map enR):=by
 have h6:=h.os.1;have eO:=h.pl;have gC:=h.cl;unfold f_x;have l1:=zP (body:=zP2 x) (r:=((Jn x.zA.length).map (r1 x)).map enR) (fun i=>(((Jn i).map (r1 x)).map enR,(i:Int))) x.zA.length (fun i hi=>by
  obtain⟨p1,p2⟩:=zAn h.os (h.tl i hi).1;unfold zP2;simp only
  rw[yS hi,zJ,yK hi,bs,zD (by omega) (by omega),bs,zJa (h.os.2 i hi),bs,zT [] (by omega),bs,zB6 (by omega) (by rw[p1];exact p2),bs,zX (by simp only[Jo,Gm,Jw,Hi];omega),bs,bs,cs,L8];simp only[H6,Jg,Gf,r1,enR,zQW h,cs]) (by
  unfold zP2;simp)
 rw[show((0:Nat):Int)=0 from rfl]at l1;simp only[List.range_zero,Gf]at l1;rw[l1,bs];have l3:=zP (body:=zP4 x) (r:=(sY x).map enR) (fun i=>(((Jn x.zA.length).map (r1 x)++(Jn i).flatMap (R2 x)).map enR,(i:Int))) x.zA.length (fun i hi=>by
  have t2:=(h.tl i hi).2.1;have hfm:=zKa h i (by omega);unfold zP4;simp only
  rw[yS hi,zJ,zT [] (by omega),bs];have l2:=zP (body:=zP3 (((Jn x.zA.length).map (r1 x)++(Jn i).flatMap (R2 x)).map enR,(i:Int)) (x.zB.getD i [])) (r:=((Jn x.zA.length).map (r1 x)++(Jn (i+1)).flatMap (R2 x)).map enR)
   (fun j=>(((Jn x.zA.length).map (r1 x)++(Jn i).flatMap (R2 x)++(Jn j).map (r2 x i)).map enR,(j:Int))) (x.zB.getD i []).length (fun j hj=>by
    obtain⟨p1,p2⟩:=zAn h.os ((h.tl i hi).2.2 j hj);have fC:=zFO 0 ((x.zB.getD i []).getD j []) (by grind);unfold zP3;simp only
    rw[yS hj,zJ,zT [] hj,bs,zD (by omega) (by omega),bs,zD (by omega) (by omega),bs,zD (by omega) (by omega),bs,zB6 (by omega) (by rw[p1];exact p2),bs,zX (by simp only[Jo,Jw,Hi];omega),bs,zX (by simp only[Jo,Jb,Gm,Jw,Hi];omega),bs,zD (by omega) (by omega),bs,cs,L8];have e1:(i:Int)+(j:Int)+2=((i+j+1:Nat):Int)+1:=by omega
    simp only[H6,Jg,Gf,r2,enR,enW,Je,Lu,e1];rfl) (by
    unfold zP3;simp only
    rw[uU,zK,L8,Q8]
    grind[R2])
  rw[show((0:Nat):Int)=0 from rfl]at l2
  grind[zD]) (by
  unfold zP4;simp only
  rw[uU,zK];rfl)
 grind
theorem zM5{q:Rl}(hq:q∈sY x):((∀w∈q.1,w<x.zA.length)∧q.1.length≤1000)∧(∀w∈q.2,w<x.zA.length)∧q.2.length≤1000:=by
 have h6:=h.os.1;simp only[sY,Kd,Jd,Jq,Ge,R2]at hq;rcases hq with⟨i,hi,rfl⟩|⟨i,hi,j,hj,rfl⟩
 ·obtain⟨p1,p2⟩:=zAn h.os (h.tl i hi).1
  have fC:=zFO 0 (x.zF.getD i []) (by rw[p1];exact fun i hi=>(p2 i hi).2);have eu:=(h.os.2 i hi).pos;refine⟨⟨fun w hw=>?_,?_⟩,fun w hw=>zLB 0 _ (by omega) w hw,by simp only[r1];omega⟩
  ·have:=List.eq_of_mem_replicate hw;omega
  ·simp only[r1,Ju];omega
 ·obtain⟨p1,p2⟩:=zAn h.os ((h.tl i hi).2.2 j hj)
  have t2:=(h.tl i hi).2.1;have fC:=zFO 0 ((x.zB.getD i []).getD j []) (by rw[p1];exact fun i hi=>(p2 i hi).2);refine⟨⟨fun w hw=>?_,by simp[r2]⟩,fun w hw=>?_,by simp only[r2,Jw];omega⟩
  ·simp only[r2,Jl,List.not_mem_nil,or_false]at hw;omega
  ·simp only[r2,Jl]at hw
   rcases hw with rfl|hw
   ·exact hi
   ·exact zLB 0 _ (by omega) w hw
variable {m:zG}{D:Nat} (hm:MOk x.zA.length m D)
 include hm
theorem zJb:(∀q∈sY x,wM m.Prime D m.zE q.1 (idM D)=wM m.Prime D m.zE q.2 (idM D))↔zCY x m D:=by
 have h7:=hm.p.pos;have hI:=zAj (p:=m.Prime) (D:=D) h7.1;have key:∀i j,i<x.zA.length→j<x.zA.length→ ∀ws,(wM m.Prime D m.zE [j,i] (idM D)=wM m.Prime D m.zE (i::ws) (idM D)↔PM m.Prime D (m.zE.getD j []) (m.zE.getD i [])=PM m.Prime D (m.zE.getD i []) (wM m.Prime D m.zE ws (idM D))):=fun i j hi hj ws=>by
  have gQ:=hm.mat i hi;have pm:=hm.mat j hj;have e1:wM m.Prime D m.zE [j,i] (idM D)=PM m.Prime D (m.zE.getD j []) (m.zE.getD i []):=by show PM _ _ (PM _ _ (idM D) _) _=_;rw[zH9 pm]
  have e2:wM m.Prime D m.zE (i::ws) (idM D)=PM m.Prime D (m.zE.getD i []) (wM m.Prime D m.zE ws (idM D)):=by show wM _ _ _ ws (PM _ _ (idM D) _)=_;rw[zH9 gQ,←zOu (by omega) gQ.1 ws hI,zIU gQ]
  rw[e1,e2]
 constructor
 ·intro g i hi
  have t2:=(h.tl i hi).2.1;refine⟨g (r1 x i) (by simp only[sY,Kd,Jd,Jq];grind),fun j h1 h2=>?_⟩;have:=g (r2 x i (j-(i+1))) (by
   simp only[sY,Kd,Ge,Jq,R2,Jd]
   grind)
  simp only[r2]at this;rw[show i+(j-(i+1))+1=j from by omega]at this
  grind
 ·intro g q hq
  simp only[sY,Kd,Jd,Jq,Ge,R2]at hq;rcases hq with⟨i,hi,rfl⟩|⟨i,hi,j,hj,rfl⟩
  ·exact(g i hi).1
  ·have t2:=(h.tl i hi).2.1
   have:=(g i hi).2 (i+j+1) (by omega) (by omega);rw[show i+j+1-(i+1)=j from by omega]at this;exact(key i (i+j+1) hi (by omega) _).2 this
theorem zM6:IsB ((zC (zP8 m ((sY x).map enR)) 0).bind fun r=>match r with|.inl _=>aB aD|.inr r=>aB r) (zCY x m D):=by
 have h6:=h.os.1;have h7:=hm.p.pos;have h3:=hm.d3;have hI:=zAj (p:=m.Prime) (D:=D) h7.1;have hfm:=zKa h x.zA.length (Ji _);have cu:(sY x).length≤1000:=by simp only[sY,Jb,Jo,Gm];omega
 refine(tP (sY x).length (fun k=>wM m.Prime D m.zE ((sY x).getD k ([],[])).1 (idM D)=wM m.Prime D m.zE ((sY x).getD k ([],[])).2 (idM D)) rfl (fun k hk _=>?_) ?_).iff ⟨fun g=>(zJb h hm).1 fun q hq=>?_,fun g k hk=>(zJb h hm).2 g _ ?_⟩
 ·have gw:(sY x).getD k ([],[])∈sY x:=by
   rw[J2,J5 hk];exact Kt hk
  obtain⟨⟨g1,g2⟩,g3,g4⟩:=zM5 h gw;have hs:=(zEh (p:=m.Prime) (D:=D) (A:=m.zE) (by omega) ((sY x).getD k ([],[])).1 hI).small (by omega);refine wT (o:=aB (wM m.Prime D m.zE ((sY x).getD k ([],[])).1 (idM D)==wM m.Prime D m.zE ((sY x).getD k ([],[])).2 (idM D))) (IsB.of_bool (by rw[beq_iff_eq])) (by omega) ?_;unfold zP8;rw[Jo,yS hk,zJ,tI,Jm,J5 hk];rw[J2,J5 hk]at g1 g2 g3 g4 hs ⊢
  simp only[Gt,La]at g1 g2 g3 g4 hs ⊢
  rw[bs,zCE hm h6 g1 (H0 g2 (by omega)),bs,zCE hm h6 g3 (H0 g4 (by omega)),bs];simp only
  rw[zGy hs.1 hs.2]
 ·unfold zP8
  rw[Jo,uU,zK]
 ·obtain⟨k,hk,rfl⟩:=Jv.1 hq
  have:=g k hk;rw[J2,J5 hk]at this;exact this
 ·rw[J2,J5 hk];exact Kt hk
end
theorem zCG{x:SPr}{m:zG}(hl:x.zA.length≤1048576)(_hal:m.zE.length≤1048576):IsB (f_B x m) (zOw x m):=by
 unfold f_B;rcases sX hl with⟨h1,h2⟩|⟨h1,h2⟩
 ·have h6:=h2.1.os.1
  rw[h1,bs,J6,zK];rcases zBo m.Prime with⟨p1,p2⟩|⟨p1,p2⟩
  ·rw[p1,bs,J6,zK]
   rcases uF m.Dim 1 3 with⟨d1,d2⟩|⟨d1,d2⟩
   ·rw[d1,bs,J6,zK]
    obtain⟨D,hD⟩:∃D:Nat,m.Dim=(D:Int):=⟨m.Dim.toNat,by omega⟩
    by_cases gc:m.zE.length=x.zA.length
    ·rw[zAC (by omega),zK]
     rcases chk (body:=zP7 m) m.zE.length 0 (Kc _) (fun i=>Mat m.Prime D (m.zE.getD i [])) (fun _=>aE) (fun i _ hi _=>by
       unfold zP7;rw[yS hi,zJ,zT [] hi,bs,hD]
       by_cases hr:(m.zE.getD i []).length=D
       ·rw[zAC (by omega),zK]
        refine wT (zGx p2 (D:=D) (by omega) hr) (by omega) ?_
        grind[zMS,zT]
       ·rw[zAx (by omega),zJ]
        exact .inr ⟨rfl,fun g=>hr g.1⟩) (by
       unfold zP7;simp)with⟨g1,g2⟩|⟨i,_,hi,g1,g2⟩
     ·rw[show((0:Nat):Int)=0 from rfl]at g1
      have hm:MOk x.zA.length m D:=⟨p2,hD,by omega,by omega,gc,by grind⟩;rw[g1,bs,zCZ h2.1];simp only
      rw[bs];refine(zM6 h2.1 hm).iff ⟨fun k2=>⟨h2,D,hm,k2⟩,fun⟨_,D',gu,hr⟩=>?_⟩;have:D'=D:=by have:=gu.d;omega
      grind
     ·rw[show((0:Nat):Int)=0 from rfl]at g1
      rw[g1,bs];refine .inr ⟨rfl,fun⟨_,D',gu,_⟩=>g2 ?_⟩;have:D'=D:=by have:=gu.d;omega
      rw[←this];exact gu.mat i (by omega)
    ·rw[zAx (by omega),zJ]
     exact .inr ⟨rfl,fun⟨_,D',gu,_⟩=>gc gu.len⟩
   ·rw[d1,bs,Jx,zJ]
    exact .inr ⟨rfl,fun⟨_,D',gu,_⟩=>d2 (by have:=gu.d;have:=gu.d1;have:=gu.d3;omega)⟩
  ·rw[p1,bs,Jx,zJ]
   exact .inr ⟨rfl,fun⟨_,D',gu,_⟩=>p2 gu.p⟩
 ·rw[h1,bs,Jx,zJ]
  exact .inr ⟨rfl,fun g=>h2 g.1⟩
end Go.Pl

namespace Go.Pl
open Go Go.Ab Go.Wk Go.Pc
theorem zGZ{xs:List (List Int)}{i:Nat}(h:i<xs.length):(xs.take (i+1)).flatten=(xs.take i).flatten++xs.getD i []:=by grind[Kb]
theorem zLC{xs:List (List Int)}(i:Nat):(xs.take i).flatten.length≤xs.flatten.length:=by grind[G8]
theorem zM7{k:Nat}(hk:k≤1000000):zP9 (k:Int)=aB []:=by
 unfold zP9;rw[aF (by omega),zK,zD (by decide) (by decide),bs,zD (by omega) (by omega),bs]
 by_cases h:(k:Int)-(0-0)> 0
 ·rw[aG h,zJ]
  have e:xC ([]:List Int) ((k:Int)-(0-0)) 0=aB (J1 k 0):=by
   unfold xC
   grind
  rw[e,bs];rfl
 grind
theorem zE3{xs:List (List Int)}(hx:xs.length≤1000)(hf:xs.flatten.length≤1000000):f_D xs=aB xs.flatten:=by
 unfold f_D;have l1:=zP (body:=zPA xs) (r:=((xs.flatten.length:Nat):Int)) (fun i=>((((xs.take i).flatten.length:Nat):Int),(i:Int))) xs.length (fun i hi=>by
  have h1:=zGZ hi;have h2:=zLC (xs:=xs) (i+1);have h3:=congrArg Ql h1;rw[Jb]at h3;unfold zPA;simp only
  rw[yS hi,zJ,zT [] hi,bs,zD (by omega) (by omega),bs,aF (by omega),zK,zD (by omega) (by omega),bs,cs,h3]
  congr 3) (by
  unfold zPA;simp)
 rw[show((0:Nat):Int)=0 from rfl]at l1;simp only[Lb,List.flatten_nil,Hi]at l1;rw[show((0:Nat):Int)=0 from rfl]at l1;rw[l1,bs,zM7 hf,bs];have l2:=zP (body:=zPB xs) (r:=xs.flatten) (fun i=>((xs.take i).flatten,(i:Int))) xs.length (fun i hi=>by
  have h1:=zGZ hi;have h2:=zLC (xs:=xs) (i+1);have h3:=congrArg Ql h1;rw[Jb]at h3;unfold zPB;simp only
  rw[yS hi,zJ,zT [] hi,bs,zX (by omega),bs,zD (by omega) (by omega),bs,cs,h1]) (by
  unfold zPB;simp)
 grind
theorem zJc{r:List Int}{a b:Nat}(hr:r.length≤1000)(ha:a≤1000)(hb:b≤1000):zRB r (a:Int) (b:Int)=aB (J1 a 0++(r++J1 b 0)):=by grind[zRB,yX,zE3]
end Go.Pl

namespace Go.Pl
open Go Go.Ab Go.Wk Go.Pc
section
variable {p:Int}
def zEF(p:Int)(D:Nat)(r:List Int)(k:Int)(s:List Int):List Int:=mkv D fun j=>(at0 r j+k*at0 s j)%p
theorem zOx{D:Nat}{r s:List Int}{k:Int}:(zEF p D r k s).length=D:=yT _ _
def zHB(p:Int)(D i:Nat)(r:List Int)(k:Int)(s:List Int):List Int:=mkv D fun j=>if j<i then(at0 r j+k*at0 s j)%p else at0 r j
theorem zM8{D:Nat}{r s:List Int}{k:Int}(hr:r.length=D):zHB p D 0 r k s=r:=by
 conv=>rhs;rw[tC hr]
 rfl
theorem zM9{D:Nat}{r s:List Int}{k:Int}:zHB p D D r k s=zEF p D r k s:=yO (by omega)
theorem zOy{D i:Nat}{r s:List Int}{k a:Int}(ha:a=(at0 r i+k*at0 s i)%p):(zHB p D i r k s).set i a=zHB p D (i+1) r k s:=by
 simp only[zHB];rw[zD0]
 grind
theorem zQX{D i:Nat}{r s:List Int}{k:Int}(hi:i<D):at0 (zHB p D i r k s) i=at0 r i:=by rw[zHB,xM hi,if_neg (by omega)]
theorem zFQ{D i:Nat}{r s:List Int}{k:Int}:(zHB p D i r k s).length=D:=yT _ _
end
section
variable {p:Int} (hp:Prime p)
 include hp
theorem zSP{a:Int}(_h0:-1000≤a)(_h1:a≤1000):zMT a p=aB (a%p):=by
 have h7:=hp.pos;have e1:=Gp a (show 0<p by omega);have e2:=Ux a (show 0<p by omega);have e3:(Qh a p+p)%p=a%p:=by
  rw[Ha];have:=Uj a p
  conv=>rhs;rw[←this]
  simp
 unfold zMT yV;rw[if_neg (by omega),bs,zD (by omega) (by omega),bs,if_neg (by omega),bs,H9 (by omega),e3]
theorem zOz{a:Int}(_h0:-1000≤a)(_h1:a≤1000):zUx a p=aB (a%p):=by
 have h7:=hp.pos;have e1:=Gp a (show 0<p by omega);have e2:=Ux a (show 0<p by omega);have e3:(Qh a p+p)%p=a%p:=by
  rw[Ha];have:=Uj a p
  conv=>rhs;rw[←this]
  simp
 unfold zUx yV;rw[if_neg (by omega),bs]
 by_cases h:Qh a p<0
 ·rw[aG h,zJ,zD (by omega) (by omega),bs,←e3,Kl (by omega) (by omega)]
 ·rw[aF h,zK,←e3,Ha,Kl (by omega) (by omega)]
theorem zO0{D:Nat}{r s:List Int}{k:Int}:Row p D (zEF p D r k s):=by have h7:=hp.pos;refine⟨yT _ _,fun i hi=>?_⟩;have e:at0 (zEF p D r k s) i=(at0 r i+k*at0 s i)%p:=xM hi;have e1:=L5 (at0 r i+k*at0 s i) (show p≠0 by omega);have e2:=Kr (at0 r i+k*at0 s i) (show 0<p by omega);omega
theorem zKb{k b:Int}(hk:-7≤k∧k≤7)(hb:0≤b∧b≤p-1):-49≤k*b∧k*b≤49:=by
 have h7:=hp.pos;rcases Int.le_total 0 k with h|h
 ·have h1:=Gx h hb.1
  have h2:=Kq hk.2 (show b≤7 by omega) hb.1 (by omega);omega
 ·have h1:=Gx (show 0≤ -k by omega) hb.1
  have h2:=Kq (show -k≤7 by omega) (show b≤7 by omega) hb.1 (by omega);rw[Int.neg_mul]at h1 h2;omega
theorem zE4{D:Nat}{r s:List Int}{k:Int}(hr:Row p D r)(hs:Row p D s)(hk:-7≤k∧k≤7)(hD:D≤1000000):zMU p r k s=aB (zEF p D r k s):=by
 have h7:=hp.pos;have:=zP (body:=zLZ p k s) (r:=zEF p D r k s) (fun i=>(zHB p D i r k s,(i:Int))) D (fun i hi=>by
  have a1:=hr.2 i hi;have a2:=hs.2 i hi;have a3:=zKb hp hk a2;unfold zLZ;simp only
  rw[zFQ,yS hi,zJ,hs.1,yS hi,zJ,yK (by grind[zFQ]),bs,yK (by rw[hs.1];exact hi),bs,zD (by omega) (by omega),bs,zQX hi,zD (by omega) (by omega),bs,zOz hp (by omega) (by omega),bs,bs,zD (by omega) (by omega),bs,cs,Jj,zOy rfl]) (by
  unfold zLZ;simp only
  rw[zFQ,uU,zK,zM9])
 rw[show((0:Nat):Int)=0 from rfl,zM8 hr.1]at this;unfold zMU;rw[wI (by rw[hr.1];omega),bs,this,bs]
end
theorem zKc{p:Int}{D:Nat}{r s:List Int}:zEF p D r (p-1) s=zEF p D r (-1) s:=yO fun j _=>by rw[show at0 r j+(p-1)*at0 s j=at0 r j+ -1*at0 s j+p*at0 s j from by grind,Int.add_mul_emod_self_left]
theorem zMA{p:Int}{D:Nat}{r s:List Int}(hr:Row p D r)(hs:Row p D s):(∀j,j<D→at0 (zEF p D r (-1) s) j=0)↔r=s:=by
 constructor
 ·intro h
  rw[tC hr.1,tC hs.1];refine yO fun j hj=>?_
  have h1:=h j hj;rw[zEF,xM hj]at h1;have a1:=hr.2 j hj;have a2:=hs.2 j hj;obtain⟨c,hc⟩:=Int.dvd_of_emod_eq_zero h1;have:c=0:=by
   rcases Int.lt_trichotomy c 0 with h|h|h
   ·have:=H7 (show c≤ -1 by omega) (show 0≤p by omega);omega
   ·exact h
   ·have:=H7 (show 1≤c by omega) (show 0≤p by omega);omega
  grind
 ·rintro rfl j hj
  rw[zEF,xM hj,show at0 r j+ -1*at0 r j=0 from by omega];simp
end Go.Pl

namespace Go.Pl
open Go Go.Ab Go.Wk Go.Pc
def VOk(n:Nat)(p:Int)(D:Nat)(vals:Mx):Prop:=vals.length=n∧ ∀i,i<n→Row p D (vals.getD i [])
abbrev z0(D:Nat):List Int:=J1 D 0
theorem zTW{p:Int}{D:Nat}(hp:0<p):Row p D (z0 D):=by
 refine⟨by simp,fun i hi=>?_⟩
 grind
theorem uN{p:Int}{D:Nat}{r:List Int}{B:Mx}(hp:0<p):Row p D (tJ p D r B):=by
 refine⟨yT _ _,fun i hi=>?_⟩;have e1:=L5 (S D (fun l=>at0 r l*ent B l i)) (show p≠0 by omega);have e2:=Kr (S D (fun l=>at0 r l*ent B l i)) hp
 grind[tJ,xM]
theorem zFR{v:List Int}(hl:v.length≤1000000):IsB (f_V v) (∀i,i<v.length→at0 v i=0):=by
 refine tP v.length (fun i=>at0 v i=0) rfl (fun i hi _=>?_) ?_
 ·unfold zMP
  rw[yS hi,zJ,yK hi,bs]
  by_cases h:at0 v i=0
  ·rw[show(at0 v i != 0)=aE from by grind,zK,zD (by omega) (by omega),bs,cs];grind
  grind
 ·unfold zMP
  simp
theorem zHa{v:List Int}(hl:v.length≤1000000):IsB (zHR v) (∀i,i<v.length→at0 v i=0):=zFR hl
end Go.Pl

namespace Go.Pl
open Go Go.Ab Go.Wk Go.Pc
theorem zMB{m:zG}{D:Nat}{vals:Mx}(hp:Prime m.Prime)(hd:m.Dim=(D:Int))(hD:D≤8)(hl:vals.length≤1048576):IsB (zU0 m vals) (∀i,i<vals.length→Row m.Prime D (vals.getD i [])):=by
 refine tP vals.length (fun i=>Row m.Prime D (vals.getD i [])) rfl (fun i hi _=>?_) ?_
 ·refine wT (zE1 hp hD (r:=vals.getD i [])) (by omega) ?_
  unfold zMb;rw[yS hi,zJ,zT [] hi,bs,hd]
 ·unfold zMb
  simp
end Go.Pl

namespace Go.Pl
open Go Go.Ab Go.Wk Go.Pc
theorem IsB.both{o o':Option Bool}{P:Prop}(h:IsB o P)(h':IsB o' P):(o=aB aD∧o'=aB aD∧P)∨(o=aB aE∧o'=aB aE∧ ¬P):=by
 rcases h with⟨h1,h2⟩|⟨h1,h2⟩<;>rcases h' with⟨h3,h4⟩|⟨h3,h4⟩
 all_goals grind
end Go.Pl

namespace Go.Pl
open Go Go.Ab Go.Wk Go.Pc
def Sp(p:Int)(n:Nat)(R:Mx)(v:List Int):Prop:=∃c:Nat→Int,∀j,j<n→(S R.length fun i=>c i*ent R i j)%p=at0 v j%p
def zX4(p:Int)(n:Nat)(R R':Mx):Prop:=(∀i,i<R.length→Sp p n R' (R.getD i []))∧ ∀i,i<R'.length→Sp p n R (R'.getD i [])
end Go.Pl

namespace Go.Pl
open Go Go.Ab Go.Wk Go.Pc
def mkR(m:Nat)(F:Nat→List Int):Mx:=(Jn m).map F
theorem zQY{m:Nat}{F:Nat→List Int}:(mkR m F).length=m:=by simp[mkR]
theorem zQZ{m:Nat}{F:Nat→List Int}{i:Nat}(h:i<m):(mkR m F).getD i []=F i:=by simp[mkR,J2,h]
theorem zTX{R:Mx}{m:Nat}(h:R.length=m):R=mkR m (fun i=>R.getD i []):=zEc (D:=m) h zQY (by grind[zQZ])
end Go.Pl

namespace Go.Pl
open Go Go.Ab Go.Wk Go.Pc
end Go.Pl

namespace Go.Pl
open Go Go.Ab Go.Wk Go.Pc
theorem tD{v:List Int}(h:v.length≤1000000):f_y v=aB v:=by grind[f_y,zX]
end Go.Pl

namespace Go.Pl
open Go Go.Ab Go.Wk Go.Pc
end Go.Pl

namespace Go.Pl
open Go Go.Ab Go.Wk Go.Pc
end Go.Pl

namespace Go.Pl
open Go Go.Ab Go.Wk Go.Pc
end Go.Pl

namespace Go.Pl
open Go Go.Ab Go.Wk Go.Pc
end Go.Pl

namespace Go.Pl
open Go Go.Ab Go.Wk Go.Pc
theorem zBY{β:Type}{body:List β×Int→Option ((List β×Int)⊕List β)}(n:Nat)(F:Nat→β)(h:∀i acc,i<n→acc.length=i→body (acc,(i:Int))=aB (.inl (acc++[F i],((i+1:Nat):Int))))(he:∀acc,body (acc,(n:Int))=aB (.inr acc)):
  zC body ([],0)=aB ((Jn n).map F):=by
 have:=zP (body:=body) (r:=(Jn n).map F) (fun i=>((Jn i).map F,(i:Int))) n (by grind[L8]) (he _);exact this
def vD(D k:Nat):List Int:=mkv D fun j=>if j=k then 1 else 0
theorem kS{D k:Nat}(hk:k<D)(hD:D≤1000000):zHQ (D:Int) (k:Int)=aB (vD D k):=by grind[zHQ,yX,yK,kL,zD0,vD]
end Go.Pl

namespace Go.Pl
open Go Go.Ab Go.Wk Go.Pc
abbrev gl{β:Type}(m:Nat)(F:Nat→β):List β:=(Jn m).map F
theorem yW{β:Type}{m:Nat}{F:Nat→β}:(gl m F).length=m:=by simp[gl]
theorem zFS{β:Type}{m:Nat}{F:Nat→β}{i:Nat}(h:i<m):ixO (gl m F) (i:Int)=aB (F i):=by rw[zAg (by grind)];simp[gl]
theorem zAz{β:Type}{m:Nat}{F G:Nat→β}(h:∀i,i<m→F i=G i):gl m F=gl m G:=by grind[L4]
theorem zKd{β:Type}{m:Nat}{F:Nat→β}{i:Nat}{a:β}:(gl m F).set i a=gl m (fun k=>if k=i then a else F k):=by
 apply K8
 grind
theorem vC{β:Type}{m:Nat}{F:Nat→β}:gl m F++[F m]=gl (m+1) F:=by simp[gl,L8]
def base(n i:Nat):Nat:=n+i*n-i*(i+1)/2
theorem zCq:∀n,n<7→ ∀i,i<n→base n (i+1)=base n i+(n-1-i):=by decide
theorem zCr:∀n,n<7→ ∀i,i<n→base n i+(n-1-i)≤base n n:=by decide
theorem uO:∀n,n<7→n≤base n n∧base n n≤21∧base n 0=n:=by decide
theorem zKe:∀n:Nat,n<7→ ∀j:Nat,j<n→ ∀i:Nat,i<j→zW0 (n:Int) (i:Int) (j:Int)=aB ((base n i+(j-i-1):Nat):Int):=by decide+kernel
def exP(n D:Nat)(x:SPr)(T:Mx)(i:Nat):List Int:=if i<n then x.zF.getD i []++T.getD i []else J1 (n+D) 0
def exF(n:Nat)(x:SPr)(m:zG)(T:Mx)(i j:Nat):List Int:=if j<n-1-i then(x.zB.getD i []).getD j []++T.getD (base n i+j) []else J1 n 0++(m.zE.getD i []).getD (j-(n-1-i)) []
def unC(N i:Nat):Mx:=gl (N-1-i) fun j=>vD N (i+1+j)
def exC(n D:Nat)(x:SPr)(m:zG)(T:Mx)(i:Nat):Mx:=if i<n then gl (n+D-1-i) (exF n x m T i)else unC (n+D) i
def ext(n D:Nat)(x:SPr)(m:zG)(T:Mx):SPr:=⟨x.zA++J1 D m.Prime,gl (n+D) (exP n D x T),gl (n+D) (exC n D x m T)⟩
structure zFT (n D:Nat) (x:SPr) (m:zG) (T:Mx):Prop where
 hn:n≤6
 o:x.zA.length=n
 p:x.zF.length=n
 c:x.zB.length=n
 cl:∀i,i<n→(x.zB.getD i []).length=n-1-i
 pl:∀i,(x.zF.getD i []).length≤6
 ce:∀i j,((x.zB.getD i []).getD j []).length≤6
 t:T.length=base n n
 tl:∀i,(T.getD i []).length≤30
 m:zTT n m D
end Go.Pl

namespace Go.Pl
open Go Go.Ab Go.Wk Go.Pc
theorem zLD{a b:List Int}(ha:a.length≤1000)(hb:b.length≤1000):f_D [a,b]=aB (a++b):=by grind[zE3]
theorem zHb{v:Int}{k:Nat}(hk:k≤1000):∀d c:Nat,c≤k→(c=0→k=0)→k-c≤d→zC zEH (J1 c v++J1 (k-c) 0,(c:Int))=aB (J1 k v):=by
 intro d
 induction d with
 |zero=>
  intro c h1 _ h3;obtain rfl:c=k:=by omega
  rw[xG];unfold zEH;simp
 |succ d ih=>
  intro c h1 h2 h3
  by_cases hc:c=k
  ·grind
  ·have hl:(J1 c v++J1 (k-c) (0:Int)).length=k:=by simp;omega
   have s1:zN (J1 c v++J1 (k-c) (0:Int)) (c:Int) (k:Int)=aB (((J1 c v++J1 (k-c) (0:Int)).drop c).take (k-c)):=by
    unfold zN
    simp_all
   have s2:zN (J1 c v++J1 (k-c) (0:Int)) 0 (c:Int)=aB (J1 c v):=by
    unfold zN
    simp_all
   have e1:(J1 c v).take (k-c)=J1 (min (k-c) c) v:=by simp
   have e2:vF (J1 c v++J1 (k-c) (0:Int)) c (J1 (min (k-c) c) v)=J1 (c+min c (k-c)) v++J1 (k-(c+min c (k-c))) 0:=by
    unfold vF;rw[Jp (by simp),Ju,Nat.min_comm (k-c) c,J9,Q4,Ju,Lr (by rw[Ju];omega),Js,Ky]
    congr 2;omega
   have hb:zEH (J1 c v++J1 (k-c) 0,(c:Int))=aB (.inl (J1 (c+min c (k-c)) v++J1 (k-(c+min c (k-c))) 0,((c+min c (k-c):Nat):Int))):=by
    unfold zEH;simp only
    rw[hl,yS (by omega),zJ,s1,bs,s2,bs,Ju];simp only[Jj];rw[e1,e2,←Int.natCast_add,zD (by omega) (by omega),bs]
   rw[xG,hb];exact ih (c+min c (k-c)) (by omega) (by omega) (by omega)
theorem zKf{v:Int}{k:Nat}(hk:k≤30):f_u [v] (k:Int)=aB (J1 k v):=by
 have key:∀k:Nat,k<31→zPz 1 (IntKind.wrap .u64 (k:Int))=aB (0,(k:Int))∧zU (IntKind.wrap .i64 (k:Int))=aB k:=by decide+kernel
 obtain⟨k1,k2⟩:=key k (by omega);unfold f_u;rw[aF (by omega),zK,zOv k1,bs];simp only[k2,bs];rw[show decide ((0:Int)> 0)=aE from rfl,zK,aF (by omega),zK]
 by_cases h0:k=0
 ·subst h0
  have:=zHb (v:=v) (k:=0) (by omega) 0 0 (by omega) (by omega) (by omega);rw[show vF (J1 0 (0:Int)) 0 (([v]:List Int).take ((J1 0 (0:Int)).length-0))=J1 0 v++J1 (0-0) 0 from rfl,show((min ([v]:List Int).length ((J1 0 (0:Int)).length-0):Nat):Int)=((0:Nat):Int)from rfl,this,bs]
 ·have:=zHb (v:=v) (k:=k) (by omega) k 1 (by omega) (by omega) (by omega)
  have e1:vF (J1 k (0:Int)) 0 (([v]:List Int).take ((J1 k (0:Int)).length-0))=J1 1 v++J1 (k-1) 0:=by
   unfold vF
   grind
  grind
theorem zMC{O:List Int}{N:Nat}(hO:O.length=N)(hN:N≤100):f_L O=aB ⟨O,gl N (fun _=>J1 N 0),gl N (unC N)⟩:=by
 have gF:∀i,i<N→zC (zMV O) ([],((i+1:Nat):Int))=aB (unC N i):=fun i hi=>by
  have:=zP (body:=zMV O) (r:=unC N i) (fun j=>(gl j fun j=>vD N (i+1+j),((i+1+j:Nat):Int))) (N-1-i) (fun j hj=>by
   unfold zMV;simp only
   rw[hO,yS (by omega),zJ,kS (by omega) (by omega),bs,zX (by grind),bs,zD (by omega) (by omega),bs,cs,vC (F:=fun j=>vD N (i+1+j))];rfl) (by
   unfold zMV;simp only
   rw[hO,show i+1+(N-1-i)=N from by omega,uU,zK,unC])
  exact this
 have:=zP (body:=zMW O) (r:=(gl N (fun _=>J1 N 0),gl N (unC N))) (fun i=>(gl i (fun _=>J1 N (0:Int)),gl i (unC N),((i:Nat):Int))) N (fun i hi=>by
  unfold zMW;simp only
  rw[hO,yS hi,zJ,yX (by omega),bs,zX (by grind),bs,zD (by omega) (by omega),bs,cs,gF i hi,bs,zX (by rw[yW];simp;omega),bs,bs,vC (F:=unC N),vC (F:=fun _=>J1 N (0:Int))]) (by
  unfold zMW
  grind)
 unfold f_L;rw[tD (by omega),bs]
 grind
section
variable {n D:Nat}{x:SPr}{m:zG}{T:Mx} (h:zFT n D x m T)
 include h
def exG(n N:Nat)(x:SPr)(m:zG)(T:Mx)(i t q:Nat):List Int:=if q<t then exF n x m T i q else vD N (i+1+q)
def exE(n D:Nat)(x:SPr)(m:zG)(T:Mx)(i t k:Nat):Mx:=if k<i then exC n D x m T k else if k=i then gl (n+D-1-i) (exG n (n+D) x m T i t)else unC (n+D) k
theorem zKg{i t:Nat}:exE n D x m T i t i=gl (n+D-1-i) (exG n (n+D) x m T i t):=by have _:=h;rw[exE,if_neg (by omega),if_pos rfl]
theorem zLE{i t:Nat}:(gl (n+D) (exE n D x m T i t)).set i ((gl (n+D-1-i) (exG n (n+D) x m T i t)).set t (exF n x m T i t))=gl (n+D) (exE n D x m T i (t+1)):=by
 have _:=h;rw[zKd,zKd];refine zAz fun k _=>?_
 by_cases hk:k=i
 ·subst hk
  rw[if_pos rfl,zKg h];refine zAz fun q _=>?_
  simp only[exG]
  grind
 ·rw[if_neg hk,exE,exE,if_neg hk,if_neg hk]
theorem zFU{i k:Nat}:exE n D x m T i 0 k=if k<i then exC n D x m T k else unC (n+D) k:=by
 have _:=h;rw[exE]
 by_cases h1:k<i
 ·grind
 ·rw[if_neg h1,if_neg h1]
  by_cases h2:k=i
  ·subst h2
   rw[if_pos rfl];rfl
  grind
theorem zO1{i:Nat}(hi:i<n):gl (n+D) (exE n D x m T i (n+D-1-i))=gl (n+D) (exE n D x m T (i+1) 0):=by
 refine zAz fun k _=>?_
 rw[zFU h,exE]
 by_cases h1:k<i
 ·grind
 ·rw[if_neg h1]
  by_cases h2:k=i
  ·subst h2
   rw[if_pos rfl,if_pos (by omega),exC,if_pos hi];exact zAz fun q hq=>by rw[exG,if_pos hq]
  grind
theorem zWk{i:Nat}(hi:i<n){C:List Mx}{w:Int}:zC (zK2 T (C,w,(i:Int)) (x.zB.getD i [])) (gl (n+D) (exE n D x m T i 0),((base n i:Nat):Int),0)=aB (gl (n+D) (exE n D x m T i (n-1-i)),((base n (i+1):Nat):Int)):=by
 have h6:=h.hn;have h3:=h.m.d3;have hc:=h.cl i hi;have hb:=zCr n (by omega) i hi;have el:=uO n (by omega);have:=zP (body:=zK2 T (C,w,(i:Int)) (x.zB.getD i [])) (r:=(gl (n+D) (exE n D x m T i (n-1-i)),((base n (i+1):Nat):Int))) (fun j=>(gl (n+D) (exE n D x m T i j),((base n i+j:Nat):Int),((j:Nat):Int))) (n-1-i) (fun j hj=>by
  have a1:=h.ce i j;have a2:=h.tl (base n i+j);have e:exF n x m T i j=(x.zB.getD i []).getD j []++T.getD (base n i+j) []:=if_pos hj;unfold zK2;simp only
  rw[hc,yS hj,zJ,zT [] (by omega),bs,zFS (by omega),bs,zT [] (by rw[h.t];omega),bs,zLD (by omega) (by omega),bs,zKg h,zFS (by omega),bs,zD (by omega) (by omega),bs,zD (by omega) (by omega),bs,cs,cs,←e,Jj,Jj,zLE h];rfl) (by
  unfold zK2;simp only
  rw[hc,uU,zK,zCq n (by omega) i hi])
 exact this
theorem zWl{i:Nat}(hi:i<n){C:List Mx}{w:Int}:zC (zK3 x (C,w,(i:Int)) (m.zE.getD i [])) (gl (n+D) (exE n D x m T i (n-1-i)),0)=aB (gl (n+D) (exE n D x m T (i+1) 0)):=by
 have h6:=h.hn;have h3:=h.m.d3;have tp:=h.m.mat i hi;have:=zP (body:=zK3 x (C,w,(i:Int)) (m.zE.getD i [])) (r:=gl (n+D) (exE n D x m T (i+1) 0)) (fun j=>(gl (n+D) (exE n D x m T i (n-1-i+j)),((j:Nat):Int))) D (fun j hj=>by
  have e:exF n x m T i (n-1-i+j)=J1 n 0++(m.zE.getD i []).getD j []:=by rw[exF,if_neg (by omega),show n-1-i+j-(n-1-i)=j from by omega]
  have hr:=(tp.2 j hj).1;unfold zK3;simp only
  rw[tp.1,yS hj,zJ,zT [] (by grind),bs,zFS (by omega),bs,h.o,zD (by omega) (by omega),bs,zD (by omega) (by omega),bs,zD (by omega) (by omega),bs,show(0:Int)=((0:Nat):Int)from rfl,zJc (by omega) (by omega) (by omega),bs,
   show(n:Int)-1-(i:Int)+(j:Int)=((n-1-i+j:Nat):Int)from by omega,zKg h,zFS (by omega),bs,zD (by omega) (by omega),bs,cs,Hv,Jf,←e,Jj,Jj,zLE h];rfl) (by
  unfold zK3;simp only
  rw[tp.1,uU,zK,show n-1-i+D=n+D-1-i from by omega,zO1 h hi])
 exact this
theorem zWm:zC (zK4 x m T) (gl (n+D) (unC (n+D)),((n:Nat):Int),0)=aB (gl (n+D) (exC n D x m T)):=by
 have h6:=h.hn;have h3:=h.m.d3;have el:=uO n (by omega);have:=zP (body:=zK4 x m T) (r:=gl (n+D) (exC n D x m T)) (fun i=>(gl (n+D) (exE n D x m T i 0),((base n i:Nat):Int),((i:Nat):Int))) n (fun i hi=>by
  unfold zK4;simp only
  rw[h.o,yS hi,zJ,zT [] (by rw[h.c];exact hi),bs,zWk h hi,bs,zT [] (by rw[h.m.len];exact hi),bs,zWl h hi,bs,zD (by omega) (by omega),bs,cs]) (by
  unfold zK4;simp only
  rw[h.o,uU,zK]
  congr 2
  refine zAz fun k _=>?_
  rw[zFU h,exC]
  grind)
 have e:gl (n+D) (exE n D x m T 0 0)=gl (n+D) (unC (n+D)):=zAz fun k _=>by rw[zFU h,if_neg (by omega)]
 grind
theorem zWn:zC (zK1 x T) (gl (n+D) (fun _=>J1 (n+D) 0),0,0)=aB (gl (n+D) (exP n D x T),((n:Nat):Int)):=by
 have h6:=h.hn;have h3:=h.m.d3;have el:=uO n (by omega);have:=zP (body:=zK1 x T) (r:=(gl (n+D) (exP n D x T),((n:Nat):Int))) (fun i=>(gl (n+D) (fun k=>if k<i then exP n D x T k else J1 (n+D) 0),((i:Nat):Int),((i:Nat):Int))) n (fun i hi=>by
  have a1:=h.pl i;have a2:=h.tl i;have e:exP n D x T i=x.zF.getD i []++T.getD i []:=if_pos hi;unfold zK1;simp only
  rw[h.p,yS hi,zJ,zT [] (by rw[h.p];exact hi),bs,zT [] (by rw[h.t];omega),bs,zLD (by omega) (by omega),bs,zFS (by omega),bs,zD (by omega) (by omega),bs,bs,cs,←e,Jj,zKd]
  grind) (by
  unfold zK1;simp only
  rw[h.p,uU,zK]
  congr 3
  refine zAz fun k _=>?_
  by_cases hk:k<n
  ·grind
  ·rw[if_neg hk,exP,if_neg hk])
 grind
theorem zRa{v:Int}:f_u [v] m.Dim=aB (J1 D v):=by rw[h.m.d];exact zKf (by have:=h.m.d3;omega)
theorem zJd:f_g x m T=aB (ext n D x m T):=by
 have h6:=h.hn;have h3:=h.m.d3;unfold f_g;rw[tD (by rw[h.o];omega),bs,zRa h,bs,zX (by rw[h.o];simp;omega),bs,zMC (N:=n+D) (by rw[Jb,h.o];simp) (by omega),bs];simp only
 rw[zWn h,bs,zWm h,bs];rfl
end
end Go.Pl

namespace Go.Pl
open Go Go.Ab Go.Wk Go.Pc
theorem zHc{α:Type}{c:α→Nat}{b:Nat}:∀{xs:List α},(∀x∈xs,c x≤b)→sm c xs≤xs.length*b
 | [],_=>by simp[sm]
 |x::xs,h=>by
  have h1:=zHc (xs:=xs) fun y hy=>h y (by simp[hy])
  grind[sm,Lt]
theorem zKh{xs:Mx}{b:Nat}(h:∀i,i<xs.length→(xs.getD i []).length≤b)(i:Nat):(xs.getD i []).length≤b:=by grind
theorem zKi{x:SPr}{n:Nat}(ho:x.zA.length=n)(hn:n≤6):zUy x=aB ((base n n:Nat):Int):=by
 unfold zUy;rw[ho];have key:∀n:Nat,n<7→((rng ((n:Int)-1)).bind fun v1=>(rng ((n:Int)*v1)).bind fun v2=>(xK v2 2).bind fun v3=>(rng ((n:Int)+v3)).bind fun v4=>aB v4)=aB ((base n n:Nat):Int):=by decide+kernel
 grind
theorem zKj{x:SPr}{n:Nat}(ho:x.zA.length=n)(hn:n≤6):zRC x=aB ((base n n:Nat):Int):=by
 unfold zRC;rw[ho];have key:∀n:Nat,n<7→((rng ((n:Int)+1)).bind fun v1=>(rng ((n:Int)*v1)).bind fun v2=>(xK v2 2).bind fun v3=>aB v3)=aB ((base n n:Nat):Int):=by decide+kernel
 grind
theorem zFT.ofX{x:SPr}{m:zG}{D:Nat}{T:Mx}(hx:sW x)(hm:zTT x.zA.length m D)(ht:T.length=base x.zA.length x.zA.length)(mn:∀i,(T.getD i []).length≤30):zFT x.zA.length D x m T:=by
 have h6:=hx.n6;refine⟨h6,rfl,hx.pl,hx.cl,fun i hi=>by have:=(hx.tl i hi).2.1;omega,zKh fun i hi=>?_,fun i=>?_,ht,mn,hm⟩
 ·have:=(hx.tl i (by rw[←hx.pl];exact hi)).1.1.1
  omega
 ·rcases K2 i x.zA.length with g|g
  ·refine zKh fun j hj=>?_
   have:=((hx.tl i g).2.2 j hj).1.1;omega
  ·have e:x.zB.getD i []=[]:=by rw[J2,Ko (by rw[hx.cl];exact g)];rfl
   grind
theorem zFT.of{x:SPr}{m:zG}{D:Nat}{T:Mx}(hx:sW x)(hm:MOk x.zA.length m D)(ht:T.length=base x.zA.length x.zA.length)(mn:∀i,(T.getD i []).length≤3):zFT x.zA.length D x m T:=.ofX hx hm.x ht (by grind)
end Go.Pl

namespace Go.Pl
open Go Go.Ab Go.Wk Go.Pc
end Go.Pl

namespace Go.Pl
open Go Go.Ab Go.Wk Go.Pc
theorem zEi{xs:Mx}(h:xs.length≤100000)(hl:∀i,i<xs.length→(xs.getD i []).length≤1000000):f_R xs=aB xs:=by
 unfold f_R;rw[zBY (body:=zMY xs) xs.length (fun i=>xs.getD i []) (fun i acc hi ha=>by
  unfold zMY;simp only
  rw[yS hi,zJ,zT [] hi,bs,wI (hl i hi),bs,zX (by simp;omega),bs,zD (by omega) (by omega),bs,cs]) (fun acc=>by
  unfold zMY;simp),bs]
 congr 1
 exact(zTX rfl).symm
theorem zO2{R:Mx}{i:Nat}(hi:i<R.length):R.getD i []∈R:=by grind
end Go.Pl

namespace Go.Pl
open Go Go.Ab Go.Wk Go.Pc
end Go.Pl

namespace Go.Pl
open Go Go.Ab Go.Wk Go.Pc
end Go.Pl

namespace Go.Pl
open Go Go.Ab Go.Wk Go.Pc
end Go.Pl

namespace Go.Pl
open Go Go.Ab Go.Wk Go.Pc
end Go.Pl

namespace Go.Pl
open Go Go.Ab Go.Wk Go.Pc
theorem zRb{u v:List Int}{j:Nat}:at0 (u++v) j=if j<u.length then at0 u j else at0 v (j-u.length):=by grind
theorem zJe{v:List Int}{c j:Nat}:at0 (v.drop c) j=at0 v (c+j):=by simp
theorem kM{v:List Int}{c j:Nat}(h:j<c):at0 (v.take c) j=at0 v j:=by grind
theorem zLF{f:Nat→Int}(t:Nat):∀d:Nat,S (t+d) f=S t f+S d (fun i=>f (t+i))
 |0=>by simp[S]
 |d+1=>by rw[←Lf];simp only[S];rw[zLF t d];omega
theorem wQ{F:Nat→List Int}{m i:Nat}(h:i<m):(gl m F).getD i []=F i:=by grind
end Go.Pl

namespace Go.Pl
open Go Go.Ab Go.Wk Go.Pc
end Go.Pl

namespace Go.Pl
open Go Go.Ab Go.Wk Go.Pc
end Go.Pl

namespace Go.Pl
open Go Go.Ab Go.Wk Go.Pc
section
variable {n D:Nat}{m:zG} (hm:MOk n m D) (hn:n≤14)
 include hm hn
def zWo(m:zG)(D:Nat)(rows:Mx):Prop:=∀i,i<rows.length→Row m.Prime D (rows.getD i [])
theorem zHC{rows:Mx}(hl:rows.length≤1048576):IsB (zW1 m rows) (zWo m D rows):=by
 have _:=hn;have h3:=hm.d3;refine tP (body:=zMa m rows) rows.length (fun i=>Row m.Prime D (rows.getD i [])) rfl (fun i hi _=>?_) ?_
 ·refine wT (zE2 hm.p (D:=D) (by omega)) (by omega) ?_
  unfold zMa;rw[yS hi,zJ,zT [] hi,bs,hm.d]
 ·unfold zMa
  simp
end
end Go.Pl

namespace Go.Pl
open Go Go.Ab Go.Wk Go.Pc
end Go.Pl

namespace Go.Pl
open Go Go.Ab Go.Wk Go.Pc
theorem zHD{β:Type}{n:Nat}{F:Nat→β}:gl (n+1) F=gl n F++[F n]:=vC.symm
end Go.Pl

namespace Go.Pl
open Go Go.Ab Go.Wk Go.Pc
end Go.Pl

namespace Go.Pl
open Go Go.Ab Go.Wk Go.Pc
theorem zFV{α:Type}{f:α→α}{a:α}(h:f a=a):∀k,iter k f a=a
 |0=>rfl
 |k+1=>by show iter k f (f a)=a;rw[h];exact zFV h k
theorem zHE{p:Int}{D:Nat}{A:List Mx}:∀(v:Vec)(o:Nat)(B:Mx),o+v.length≤A.length→wM p D A (nw o v) B=img (PM p D) (A.drop o) v B
 | [],o,B,_=>by simp[nw,wM,img]
 |a::v,o,B,h=>by
  simp only[Jw]at h;have e:A.drop o=A.getD o []::A.drop (o+1):=by grind[Lh]
  rw[e];simp only[nw,img];rw[zEf,zEg,zHE v (o+1) _ (by omega)]
theorem zFW:∀(k o:Nat),nw o (zeros k)=[]
 |0,_=>rfl
 |k+1,o=>by rw[show zeros (k+1)=0::zeros k from rfl];simp only[nw];rw[zFW k];rfl
section
variable {x:SPr}{m:zG}{D:Nat} (h:Pres x) (hm:zTU x.zA.length m D) (hr:zCY x m D)
 include hm
 include h hr
theorem zLG:∀(d k:Nat),k+d=x.zA.length→Rel (PM m.Prime D) (idM D) (suf x k) (m.zE.drop k)
 |0,k,hk=>by rw[vN (by omega),Lr (by rw[hm.len];omega)];exact rfl
 |d+1,k,hkd=>by
  have h6:=h.os.1;have hk:k<x.zA.length:=by omega
  have gc:=hm.len;have e:m.zE.drop k=m.zE.getD k []::m.zE.drop (k+1):=by simp_all
  obtain⟨t1,t2,t3⟩:=h.tl k hk;obtain⟨r1,r2⟩:=hr k hk;have me:∀v,Exp x.zA v k→wM m.Prime D m.zE (nw 0 v) (idM D)=img (PM m.Prime D) (m.zE.drop (k+1)) (v.drop (k+1)) (idM D):=fun v hv=>by
   have hl:=hv.1.1
   conv=>lhs;rw[zAl hv hk]
   rw[zCp,zFW,Js,zM,zHE _ _ _ (by grind),J7]
  rw[zZ hk,e];refine⟨?_,fun q c dd hc hd=>?_,zLG d (k+1) (by omega)⟩
  ·grind[pw,lvl,zEg]
  ·rw[Kw]at hc
   have hq:k+1+q<m.zE.length:=by grind
   have bt:c=m.zE.getD (k+1+q) []:=by grind
   have hdm:dd=((x.zB.getD k []).getD q []).drop (k+1):=by grind[lvl]
   have:=r2 (k+1+q) (by omega) (by omega);rw[show k+1+q-(k+1)=q from by omega]at this;rw[bt,hdm,this,me _ (t3 q (by omega))]
end
end Go.Pl

namespace Go.Pl
open Go Go.Ab Go.Wk Go.Pc
end Go.Pl

namespace Go.Pl
open Go Go.Ab Go.Wk Go.Pc
end Go.Pl

namespace Go.Pl
open Go Go.Ab Go.Wk Go.Pc
end Go.Pl

namespace Go.Pl
open Go Go.Ab Go.Wk Go.Pc
end Go.Pl

namespace Go.Pl
open Go Go.Ab Go.Wk Go.Pc
end Go.Pl

namespace Go.Pl
open Go Go.Ab Go.Wk Go.Pc
end Go.Pl

namespace Go.Pl
open Go Go.Ab Go.Wk Go.Pc
end Go.Pl

namespace Go.Pl
open Go Go.Ab Go.Wk Go.Pc
theorem zFX{N c:Nat}{f:Nat→Int}:(mkv N f).drop c=mkv (N-c) fun i=>f (c+i):=by
 have hl:((mkv N f).drop c).length=N-c:=by rw[Kj,yT]
 grind[tC,yO,zJe,xM]
theorem kN{n j:Nat}:xL n j=mkv n fun i=>if i=j then 1 else 0:=by rw[xL,show zeros n=J1 n (0:Int)from rfl,kL,zD0]
theorem sS{n i:Nat}:at0 (zeros n) i=0:=by
 rcases K2 i n with g|g
 ·simp[zeros,at0,J2,g]
 ·simp[zeros,at0,J2,g]
theorem zCC.p{x:SPr}(h:zCC x)(hl:x.zA.length≤14):Pres x:=⟨⟨hl,h.os.2⟩,h.pl,h.cl,h.tl⟩
structure ExB (n D:Nat) (x:SPr) (m:zG) (T:Mx):Prop where
 hn:n≤6
 o:x.zA.length=n
 p:x.zF.length=n
 c:x.zB.length=n
 cl:∀i,i<n→(x.zB.getD i []).length=n-1-i
 t:T.length=base n n
 m:zTU n m D
theorem zFT.b{n D:Nat}{x:SPr}{m:zG}{T:Mx}(h:zFT n D x m T)(hm:MOk n m D):ExB n D x m T:=⟨h.hn,h.o,h.p,h.c,h.cl,h.t,hm.b⟩
section
variable {D:Nat}{x:SPr}{m:zG}{T:Mx} (h:Pres x) (hE:ExB x.zA.length D x m T) (hT:∀i,i<T.length→Row m.Prime D (T.getD i []))
 include h hE hT
abbrev exx(D:Nat)(x:SPr)(m:zG)(T:Mx):SPr:=ext x.zA.length D x m T
theorem wU:(exx D x m T).zA.length=x.zA.length+D:=by have _:=h;have _:=hE;have _:=hT;simp[exx,ext]
theorem zBu{i:Nat}(hi:i<x.zA.length):at0 (exx D x m T).zA i=at0 x.zA i:=by
 have _:=h;have _:=hE;have _:=hT;show at0 (x.zA++J1 D m.Prime) i=_
 grind
theorem zBv{i:Nat}(hi:x.zA.length≤i)(h2:i<x.zA.length+D):at0 (exx D x m T).zA i=m.Prime:=by
 have _:=h;have _:=hE;have _:=hT;show at0 (x.zA++J1 D m.Prime) i=_
 grind
theorem zKk{v t:List Int}{i:Nat}(hv:v.length=x.zA.length)(hr:∀j,j<x.zA.length→0≤at0 v j∧at0 v j≤at0 x.zA j-1)(hz:∀j,j≤i→j<x.zA.length→at0 v j=0)(ht:Row m.Prime D t)(hi:i<x.zA.length):Exp (exx D x m T).zA (v++t) i:=by
 have hl:=wU h hE hT;refine⟨⟨by rw[Jb,hv,ht.1,hl],fun j hj=>?_⟩,fun j hj=>?_⟩
 ·rw[Jb,hv,ht.1]at hj
  rw[zRb,hv];split
  ·grind[zBu]
  ·next g=>rw[zBv h hE hT (by omega) hj];exact ht.2 _ (by omega)
 grind
theorem zJf(i:Nat)(hi:i<base x.zA.length x.zA.length):Row m.Prime D (T.getD i []):=by have _:=h;exact hT i (by rw[hE.t];exact hi)
theorem zD1:zCC (exx D x m T):=by
 have hn:=hE.hn;have h3:=hE.m.d3;have h7:=hE.m.p.pos;have hl:=wU h hE hT;have hb:=uO x.zA.length (by omega);refine⟨⟨trivial,fun i hi=>?_⟩,by rw[hl];exact yW,by rw[hl];exact yW,fun i hi=>?_⟩
 ·rw[hl]at hi
  rcases K2 i x.zA.length with g|g
  ·rw[zBu h hE hT g];exact h.os.2 i g
  ·rw[zBv h hE hT g hi];exact hE.m.p
 ·rw[hl]at hi
  have hP:(exx D x m T).zF.getD i []=exP x.zA.length D x T i:=wQ hi;have hC:(exx D x m T).zB.getD i []=exC x.zA.length D x m T i:=by
   show(gl (x.zA.length+D) (exC x.zA.length D x m T)).getD i []=_
   grind
  refine⟨?_,?_,?_⟩
  ·rw[hP,exP]
   rcases K2 i x.zA.length with g|g
   ·rw[if_pos g]
    obtain⟨t1,_,_⟩:=h.tl i g;exact zKk h hE hT t1.1.1 (fun j hj=>t1.1.2 j (by rw[t1.1.1];exact hj)) (fun j hj _=>t1.2 j hj) (by grind[zJf]) g
   ·rw[if_neg (by omega)]
    have hz:∀j,at0 (J1 (x.zA.length+D) (0:Int)) j=0:=fun j=>sS
    refine⟨⟨by grind,fun j hj=>?_⟩,fun j _=>hz j⟩;rw[Ju]at hj;rw[hz];rcases K2 j x.zA.length with g2|g2
    ·rw[zBu h hE hT g2];have:=(h.os.2 j g2).pos;omega
    grind[zBv]
  ·grind[exC,unC]
  ·rw[hC,exC]
   split
   ·next g=>
    intro j hj;rw[yW]at hj;rw[wQ hj,exF];split
    ·next g2=>
     have gC:=hE.cl i g;have cb:=zCr x.zA.length (by omega) i g;obtain⟨_,_,t3⟩:=h.tl i g;have t:=t3 j (by omega);exact zKk h hE hT t.1.1 (fun q hq=>t.1.2 q (by rw[t.1.1];exact hq)) (fun q hq _=>t.2 q hq) (by grind[zJf]) g
    ·next g2=>
     have hz:∀j,at0 (J1 x.zA.length (0:Int)) j=0:=fun j=>sS
     refine zKk h hE hT (by simp) (fun q hq=>?_) (fun q _ _=>hz q) ((hE.m.mat i g).2 _ (by omega)) g;rw[hz];have:=(h.os.2 q hq).pos;omega
   ·next g=>
    intro j hj;rw[unC,yW]at hj;rw[unC,wQ hj];refine⟨⟨by rw[hl];exact yT _ _,fun q hq=>?_⟩,fun q hq=>?_⟩
    ·rw[vD,yT]at hq
     rw[vD,xM hq];rcases K2 q x.zA.length with g2|g2
     ·rw[zBu h hE hT g2];have:=(h.os.2 q g2).pos;omega
     grind[zBv]
    ·rw[vD,xM (by omega),if_neg (by omega)]
theorem zD2{k:Nat}(hk:k<x.zA.length):(lvl (exx D x m T) k).o=at0 x.zA k:=zBu h hE hT hk
theorem zJg{k:Nat}(hk:k<x.zA.length):(lvl (exx D x m T) k).w=(lvl x k).w++T.getD k []:=by have t1:=(h.tl k hk).1.1.1;have _:=hE;have _:=hT;show((exx D x m T).zF.getD k []).drop (k+1)=_;have hP:(exx D x m T).zF.getD k []=exP x.zA.length D x T k:=wQ (by omega);rw[hP,exP,if_pos hk,K3 (by omega)];rfl
def eC1(x:SPr)(T:Mx)(k:Nat):List Vec:=gl (x.zA.length-1-k) fun j=>(lvl x k).cs.getD j []++T.getD (base x.zA.length k+j) []
def eC2(x:SPr)(m:zG)(D k:Nat):List Vec:=((gl D fun j=>(m.zE.getD k []).getD j []).map fun r=>zeros (x.zA.length-1-k)++r)
theorem zFY{k:Nat}(hk:k<x.zA.length):(lvl (exx D x m T) k).cs=eC1 x T k++eC2 x m D k:=by
 have gC:=hE.cl k hk;have _:=hT;show((exx D x m T).zB.getD k []).map (·.drop (k+1))=_;have hC:(exx D x m T).zB.getD k []=exC x.zA.length D x m T k:=by
  show(gl (x.zA.length+D) (exC x.zA.length D x m T)).getD k []=_
  grind
 rw[hC,exC,if_pos hk];apply K8;intro j
 by_cases hj:j<x.zA.length+D-1-k
 ·have e1:((gl (x.zA.length+D-1-k) (exF x.zA.length x m T k)).map (·.drop (k+1)))[j]? =aB ((exF x.zA.length x m T k j).drop (k+1)):=by grind
  rw[e1,exF]
  by_cases g:j<x.zA.length-1-k
  ·rw[if_pos g,Jz (by grind[eC1])]
   have t:=(h.tl k hk).2.2 j (by omega);rw[K3 (by have:=t.1.1;omega)];have e2:(eC1 x T k)[j]? =aB ((lvl x k).cs.getD j []++T.getD (base x.zA.length k+j) []):=by simp[eC1,gl,g]
   rw[e2]
   congr 2
   simp only[lvl,J2,Jm]
   grind
  ·rw[if_neg g,Ja (by grind[eC1]),eC1,yW]
   have e2:(eC2 x m D k)[j-(x.zA.length-1-k)]? =aB (zeros (x.zA.length-1-k)++(m.zE.getD k []).getD (j-(x.zA.length-1-k)) []):=by simp[eC2,gl,show j-(x.zA.length-1-k)<D by omega]
   rw[e2,K3 (by simp;omega),Ky,show x.zA.length-(k+1)=x.zA.length-1-k from by omega];rfl
 ·rw[Ko (by grind),Ko (by simp[eC1,eC2,gl];omega)]
end
def tlv(p:Int):Nat→Pcp
 |0=>[]
 |d+1=>⟨p,zeros d,yZ d⟩::tlv p d
theorem zER{p:Int}:∀d,(tlv p d).length=d
 |0=>rfl
 |d+1=>by simp[tlv,zER d]
theorem zE5{p:Int}:∀(d:Nat)(v:Vec),V (tlv p d) v↔Row p d v
 |0,v=>by
  constructor
  ·intro h
   obtain rfl:v=[]:=h;exact⟨rfl,fun i hi=>by omega⟩
  ·intro h
   have:=Jr h.1;subst this;exact rfl
 |d+1,v=>by
  cases v with
  |nil=>exact⟨fun h=>h.elim,fun h=>by have:=h.1;grind⟩
  |cons a v=>
   show((0≤a∧a<p)∧V (tlv p d) v)↔_;rw[zE5 d v];constructor
   ·rintro⟨⟨h0,h1⟩,h2⟩
    refine⟨by simp[h2.1],fun i hi=>?_⟩;cases i with
    |zero=>grind
    |succ i=>have:=h2.2 i (by omega);grind
   ·intro h
    have h0:=h.2 0 (by omega);simp only[at0,Ly]at h0;refine⟨⟨h0.1,by omega⟩,by have:=h.1;grind,fun i hi=>?_⟩;have:=h.2 (i+1) (by omega)
    grind
abbrev adv(p:Int)(D:Nat)(u v:List Int):List Int:=mkv D fun j=>(at0 u j+at0 v j)%p
theorem zAD{p:Int}{D:Nat}{u v:List Int}(hp:0<p):Row p D (adv p D u v):=by refine⟨yT _ _,fun j hj=>?_⟩;rw[xM hj];have e1:=L5 (at0 u j+at0 v j) (show p≠0 by omega);have e2:=Kr (at0 u j+at0 v j) hp;omega
theorem zFZ{p:Int}{D:Nat}{c:List Int}(hp:0<p):∀(k:Nat)(acc:List Int),Row p D acc→iter k (fun w=>adv p D w c) acc=mkv D fun j=>(at0 acc j+(k:Int)*at0 c j)%p
 |0,acc,ha=>by
  show acc=_
  conv=>lhs;rw[tC ha.1]
  refine yO fun j hj=>?_
  have:=ha.2 j hj;rw[Int.natCast_zero,Gb,Ho,Kl this.1 (by omega)]
 |k+1,acc,ha=>by
  show iter k (fun w=>adv p D w c) (adv p D acc c)=_;rw[zFZ hp k _ (zAD hp)];refine yO fun j hj=>?_
  grind[xM,Hp,Li]
theorem zTY{f:Nat→Int}{n:Nat}:S (n+1) f=f 0+S n fun i=>f (i+1):=by
 rw[Q0,zLF 1 n];simp only[S]
 grind
theorem zES{p:Int}{D:Nat}(hp:0<p):∀(cs:List Vec)(v acc:Vec),v.length=cs.length→(∀i,i<v.length→0≤at0 v i)→Row p D acc→img (adv p D) cs v acc=mkv D fun j=>(at0 acc j+S cs.length fun k=>at0 v k*ent cs k j)%p
 | [],v,acc,hl,_,ha=>by
  show acc=_
  conv=>lhs;rw[tC ha.1]
  refine yO fun j hj=>?_
  have:=ha.2 j hj;simp only[Hi,S];rw[Ho,Kl this.1 (by omega)]
 |c::cs,[],acc,hl,_,_=>by simp at hl
 |c::cs,a::v,acc,hl,hv,ha=>by
  have h0:=hv 0 (by simp);simp only[at0,Ly]at h0;have fp:Row p D (iter a.toNat (fun w=>adv p D w c) acc):=wO (S:=Row p D) (fun _ _=>zAD hp) _ ha;show img (adv p D) cs v (iter a.toNat (fun w=>adv p D w c) acc)=_;rw[zES hp cs v _ (by grind) (fun i hi=>by have:=hv (i+1) (by grind);grind) fp,zFZ hp _ _ ha];refine yO fun j hj=>?_
  rw[xM hj,Jw,zTY,Hp,Li,←Hp,Us h0,Int.add_assoc];rfl
theorem zCs{α:Type}{S:α→Prop}{m m':α→α→α}(hm:∀a b,S a→S b→m a b=m' a b)(hc:∀a b,S a→S b→S (m' a b)):∀(cs:List α)(v:Vec)(acc:α),(∀c∈cs,S c)→S acc→img m cs v acc=img m' cs v acc
 | [],_,_,_,_=>by simp[img]
 |c::cs,[],_,_,_=>by simp[img]
 |c::cs,a::v,acc,h1,h2=>by
  have mU:=h1 c (by simp);have e:∀k acc,S acc→iter k (fun w=>m w c) acc=iter k (fun w=>m' w c) acc∧S (iter k (fun w=>m' w c) acc):=by
   intro k
   induction k with
   |zero=>intro acc ha;exact⟨rfl,ha⟩
   |succ k ih=>
    intro acc ha;show iter k (fun w=>m w c) (m acc c)=iter k (fun w=>m' w c) (m' acc c)∧_;rw[hm acc c ha mU];exact ih _ (hc _ _ ha mU)
  show img m cs v (iter a.toNat (fun w=>m w c) acc)=img m' cs v (iter a.toNat (fun w=>m' w c) acc);rw[(e _ _ h2).1];exact zCs hm hc cs v _ (by grind) (e _ _ h2).2
theorem zCt{d k j:Nat}(hk:k<d)(hj:j<d):ent (yZ d) k j=if j=k then 1 else 0:=by
 have e:(yZ d).getD k []=xL d k:=by grind[yZ]
 rw[ent,e,kN,xM hj]
theorem tY{p:Int}{D:Nat}(hp:0<p):Row p D (zeros D):=zTW hp
theorem jY{p:Int}(hp:2≤p):∀(d:Nat)(u v:Vec),Row p d u→Row p d v→mul (tlv p d) u v=adv p d u v
 |0,u,v,hu,_=>by rfl
 |d+1,u,v,hu,hv=>by
  have ih:=jY hp d;have fR:=(zE5 (d+1) u).2 hu;have eY:=(zE5 (d+1) v).2 hv;cases u with
  |nil=>exact fR.elim
  |cons a u=>
   cases v with
   |nil=>exact eY.elim
   |cons b v=>
    obtain⟨⟨a0,a1⟩,hu2⟩:=fR;obtain⟨⟨b0,b1⟩,cR⟩:=eY;have hu3:=(zE5 d u).1 hu2;have cj:=(zE5 d v).1 cR;change a<p at a1;change b<p at b1;have ep:∀w,Row p d w→sig (tlv p d) ⟨p,zeros d,yZ d⟩ w=w:=fun w hw=>by
     have bC:∀c∈yZ d,Row p d c:=fun c hc=>by obtain⟨k,hk,rfl⟩:=Jd.1 hc;rw[kN];exact⟨yT _ _,by grind[xM]⟩
     unfold sig;rw[zER,zCs (S:=Row p d) (m':=adv p d) (by omega) (fun _ _ _ _=>zAD (by omega)) (yZ d) w _ bC (tY (by omega)),zES (by omega) (yZ d) w _ (by rw[hw.1];simp[yZ]) (fun i hi=>(hw.2 i (by rw[←hw.1];exact hi)).1) (tY (by omega))]
     conv=>rhs;rw[tC hw.1]
     refine yO fun j hj=>?_
     have fQ:(yZ d).length=d:=by simp[yZ]
     have:=hw.2 j hj;rw[fQ,sS,Lw,zFK (k:=j) hj (fun k hk gf=>by rw[zCt hk hj,if_neg (Ne.symm gf),U9]),zCt hj hj,if_pos rfl,Gr,Kl this.1 (by omega)]
    have eg:∀k,iter k (sig (tlv p d) ⟨p,zeros d,yZ d⟩) u=u:=by grind[zFV]
    show mul (⟨p,zeros d,yZ d⟩::tlv p d) (a::u) (b::v)=_;rw[yJ,eg,ih u v hu3 cj];have hz:adv p d (zeros d) (adv p d u v)=adv p d u v:=by
     refine yO fun j hj=>?_
     rw[xM hj,sS,Lw,Li]
    rw[ih _ _ (tY (by omega)) (zAD (by omega)),hz];have mR:adv p (d+1) (a::u) (b::v)=(a+b)%p::adv p d u v:=by
     simp only[adv,mkv,Hm,Jg,Gl]
     congr 1
    rw[mR];split
    ·next g=>
     have g:a+b≥p:=g;have e:(a+b)%p=a+b-p:=by rw[show a+b=(a+b-p)+p from by omega,Ha,Kl (by omega) (by omega)];omega
     grind
    ·next g=>
     have g:¬a+b≥p:=g
     congr 1
     exact(Kl (by omega) (by omega)).symm
end Go.Pl

namespace Go.Pl
open Go Go.Ab Go.Wk Go.Pc
theorem zLH{α:Type}{m:α→α→α}:∀(c1:List α)(y:Vec)(c2:List α)(u:Vec)(acc:α),c1.length=y.length→img m (c1++c2) (y++u) acc=img m c2 u (img m c1 y acc)
 | [],[],_,_,_,_=>by rfl
 | [],_::_,_,_,_,h=>by simp at h
 |_::_,[],_,_,_,h=>by simp at h
 |c::c1,a::y,c2,u,acc,h=>zLH c1 y c2 u _ (by grind)
theorem zD3{α β:Type}{S:α→Prop}{m:α→α→α}{n:β→β→β}(φ:α→β)(hS:∀a b,S a→S b→S (m a b))(hm:∀a b,S a→S b→φ (m a b)=n (φ a) (φ b)):∀(cs:List α)(v:Vec)(a:α),(∀c∈cs,S c)→S a→φ (img m cs v a)=img n (cs.map φ) v (φ a)
 | [],v,a,_,_=>by rfl
 |_::_,[],_,_,_=>rfl
 |c::cs,t::v,a,hc,ha=>by
  have mU:=hc c (by simp);have e:∀k a,S a→φ (iter k (fun w=>m w c) a)=iter k (fun w=>n w (φ c)) (φ a)∧S (iter k (fun w=>m w c) a):=by
   intro k
   induction k with
   |zero=>intro a ha;exact⟨rfl,ha⟩
   |succ k ih=>
    intro a ha;have:=ih (m a c) (hS _ _ ha mU);rw[hm a c ha mU]at this;exact this
  show φ (img m cs v (iter t.toNat (fun w=>m w c) a))=img n (cs.map φ) v (iter t.toNat (fun w=>n w (φ c)) (φ a));rw[←(e _ a ha).1];exact zD3 φ hS hm cs v _ (by grind) (e _ a ha).2
theorem zJh{p:Int}{D:Nat}{r:List Int}(hr:Row p D r):tJ p D r (idM D)=r:=by
 conv=>rhs;rw[tC hr.1]
 refine yO fun j hj=>?_
 have:=hr.2 j hj;have e:∀l,l<D→ent (idM D) l j=if j=l then 1 else 0:=fun l hl=>by rw[ent,zCo hl,xM hj]
 rw[zFK (k:=j) hj (by grind),e j hj,if_pos rfl,Gr,sQ this]
theorem zLI{p:Int}{D:Nat}{r:List Int}{A B:Mx}(hA:A.length=D):tJ p D (tJ p D r A) B=tJ p D r (PM p D A B):=by
 refine yO fun j hj=>?_
 have e1:S D (fun l=>at0 (tJ p D r A) l*ent B l j)%p=S D (fun l=>S D (fun i=>at0 r i*ent A i l)*ent B l j)%p:=zIS (by grind[tJ,xM,H1,Li]);have e2:S D (fun l=>at0 r l*ent (PM p D A B) l j)%p=S D (fun i=>at0 r i*S D (fun l=>ent A i l*ent B l j))%p:=zIS (by grind[zJX,H1,Li]);rw[e1,e2]
 congr 1
 have e3:S D (fun l=>S D (fun i=>at0 r i*ent A i l)*ent B l j)=S D (fun l=>S D (fun i=>at0 r i*ent A i l*ent B l j)):=zCm (by grind[zOs]);rw[e3,zJW];refine zCm fun i _=>?_
 rw[←zJV];exact zCm (by grind)
theorem zKl{p:Int}{D:Nat}{v:List Int}(hv:Row p D v):adv p D (zeros D) v=v:=by
 conv=>rhs;rw[tC hv.1]
 refine yO fun j hj=>?_
 rw[sS,Lw,sQ (hv.2 j hj)]
theorem zO3{p:Int}{D:Nat}{acc v:List Int}{A:Mx}(hl:A.length=D):(mkv D fun j=>(at0 acc j+S A.length fun k=>at0 v k*ent A k j)%p)=adv p D acc (tJ p D v A):=by grind[yO,tJ,xM,Int.add_emod_emod]
theorem zA0{p:Int}{D:Nat}{u v:List Int}:adv p D u v=adv p D v u:=by grind
theorem zLJ{p:Int}{D:Nat}{u v w:List Int}(hv:Row p D v)(hw:Row p D w):adv p D u v=adv p D u w↔v=w:=by
 constructor
 ·intro h
  rw[tC hv.1,tC hw.1];refine yO fun j hj=>?_
  have e:at0 (adv p D u v) j=at0 (adv p D u w) j:=by rw[h]
  rw[adv,adv,xM hj,xM hj]at e;have h1:=hv.2 j hj;have h2:=hw.2 j hj;have h3:=Int.emod_emod_of_dvd (at0 u j+at0 v j) (Int.dvd_refl p);have e4:(at0 u j+at0 v j-at0 u j)%p=(at0 u j+at0 w j-at0 u j)%p:=by rw[Qm,e,←Qm]
  rw[show at0 u j+at0 v j-at0 u j=at0 v j from by omega,show at0 u j+at0 w j-at0 u j=at0 w j from by omega,sQ h1,sQ h2]at e4;exact e4
 grind
section
variable {D:Nat}{x:SPr}{m:zG}{T:Mx} (h:Pres x) (hE:ExB x.zA.length D x m T) (hT:∀i,i<T.length→Row m.Prime D (T.getD i []))
 include h hE hT
theorem zBw:∀(d k:Nat),x.zA.length≤k→k+d=x.zA.length+D→suf (exx D x m T) k=tlv m.Prime d
 |0,k,hk,hd=>by rw[vN (by grind[wU])];rfl
 |d+1,k,hk,hd=>by
  have hl:=wU h hE hT;rw[zZ (by omega),zBw d (k+1) (by omega) (by omega),tlv]
  congr 1
  have hP:(exx D x m T).zF.getD k []=exP x.zA.length D x T k:=wQ (by omega);have hC:(exx D x m T).zB.getD k []=exC x.zA.length D x m T k:=by
   show(gl (x.zA.length+D) (exC x.zA.length D x m T)).getD k []=_
   grind
  unfold lvl;rw[hP,hC,exP,exC,if_neg (by omega),if_neg (by omega),zBv h hE hT hk (by omega),Ky,show x.zA.length+D-(k+1)=d from by omega]
  congr 1
  rw[unC,yZ,gl,Gl,show x.zA.length+D-1-k=d from by omega];refine L4 fun j hj=>?_
  have hj:=Jq.1 hj;show(vD (x.zA.length+D) (k+1+j)).drop (k+1)=xL d j;rw[vD,zFX,kN,show x.zA.length+D-(k+1)=d from by omega];simp
theorem zBZ:∀(d k:Nat),k+d=x.zA.length→ ∀v,V (suf (exx D x m T) k) v↔ ∃y u,v=y++u∧V (suf x k) y∧Row m.Prime D u
 |0,k,hk,v=>by
  rw[zBw h hE hT D k (by omega) (by omega),zE5,vN (x:=x) (k:=k) (by omega)];constructor
  ·intro g;exact⟨[],v,rfl,rfl,g⟩
  ·rintro⟨y,u,rfl,hy,hu⟩
   obtain rfl:y=[]:=hy;exact hu
 |d+1,k,hk,v=>by
  have hl:=wU h hE hT;have ih:=zBZ d (k+1) (by omega);rw[zZ (x:=exx D x m T) (by omega),zZ (x:=x) (by omega)];cases v with
  |nil=>
   refine⟨fun g=>g.elim,?_⟩
   rintro⟨y,u,e,hy,hu⟩
   cases y with
   |nil=>exact hy.elim
   |cons a y=>simp at e
  |cons a v=>
   show((0≤a∧a<(lvl (exx D x m T) k).o)∧V (suf (exx D x m T) (k+1)) v)↔_;rw[zD2 h hE hT (by omega),ih v];constructor
   ·rintro⟨g,y,u,rfl,hy,hu⟩
    exact⟨a::y,u,rfl,⟨g,hy⟩,hu⟩
   ·rintro⟨y,u,e,hy,hu⟩
    cases y with
    |nil=>exact hy.elim
    |cons b y=>
     simp only[Hn,Q9.injEq]at e;obtain⟨rfl,rfl⟩:=e;exact⟨hy.1,y,u,rfl,hy.2,hu⟩
theorem zE6:∀(d k:Nat),k+d=x.zA.length→ ∀y u r,V (suf x k) y→Row m.Prime D u→Row m.Prime D r→mul (suf (exx D x m T) k) (y++u) (zeros d++r)=y++adv m.Prime D u r
 |0,k,hk,y,u,r,hy,hu,hr=>by have hp:=hE.m.p.pos;rw[vN (x:=x) (k:=k) (by omega)]at hy;obtain rfl:y=[]:=hy;rw[zBw h hE hT D k (by omega) (by omega)];exact jY (by omega) D u r hu hr
 |d+1,k,hk,y,u,r,hy,hu,hr=>by
  have hl:=wU h hE hT;rw[zZ (x:=x) (by omega)]at hy;cases y with
  |nil=>exact hy.elim
  |cons a y=>
   obtain⟨⟨a0,a1⟩,hy⟩:=hy;change a<at0 x.zA k at a1;rw[zZ (x:=exx D x m T) (by omega)];show mul _ (a::(y++u)) (0::(zeros d++r))=_;rw[yJ,zD2 h hE hT (by omega),if_neg (by omega)];show(a+0)::mul _ (y++u) (zeros d++r)=_;rw[zE6 d (k+1) (by omega) y u r hy hu hr,Ho];rfl
theorem zAb{k:Nat}(hk:k≤x.zA.length+D):Pc.Ok (suf (exx D x m T) k):=(zD1 h hE hT).okAt (by grind[wU])
theorem zKm{d k:Nat}(hk:k+d=x.zA.length):∀(rs:List Vec)(v:Vec)(y u:Vec),(∀r∈rs,Row m.Prime D r)→V (suf x k) y→Row m.Prime D u→img (mul (suf (exx D x m T) k)) (rs.map fun r=>zeros d++r) v (y++u)=y++img (adv m.Prime D) rs v u
 | [],v,y,u,_,_,_=>by rfl
 |_::_,[],_,_,_,_,_=>rfl
 |c::rs,t::v,y,u,hr,hy,hu=>by
  have hp:=hE.m.p.pos;have hc:=hr c (by simp);have e:∀q u,Row m.Prime D u→iter q (fun w=>mul (suf (exx D x m T) k) w (zeros d++c)) (y++u)=y++iter q (fun w=>adv m.Prime D w c) u:=by
   intro q
   induction q with
   |zero=>intro u _;rfl
   |succ q ih=>
    intro u hu;show iter q _ (mul _ (y++u) (zeros d++c))=_;rw[zE6 h hE hT d k hk y u c hy hu hc,ih _ (zAD (by omega))];rfl
  show img _ (rs.map fun r=>zeros d++r) v (iter t.toNat (fun w=>mul (suf (exx D x m T) k) w (zeros d++c)) (y++u))=_;rw[e _ _ hu,zKm hk rs v y _ (by grind) hy (wO (S:=Row m.Prime D) (fun _ _=>zAD (by omega)) _ hu)];rfl
theorem zTZ{k:Nat}(hk:k<x.zA.length):(gl D fun j=>(m.zE.getD k []).getD j [])=m.zE.getD k []:=by
 have _:=h;have _:=hT;have hl:=(hE.m.mat k hk).1;apply K8
 grind
def sgG(D:Nat)(x:SPr)(m:zG)(T:Mx)(k:Nat)(y:Vec):Vec:=img (mul (suf (exx D x m T) (k+1))) (eC1 x T k) y (zeros (suf (exx D x m T) (k+1)).length)
theorem zD4{k:Nat}:(eC1 x T k).length=x.zA.length-1-k:=by have _:=h;have _:=hE;have _:=hT;grind[eC1]
theorem zO4{k:Nat}(hk:k<x.zA.length):∀c∈eC1 x T k,V (suf (exx D x m T) (k+1)) c:=by intro c hc;have ok:=zAb h hE hT (k:=k) (by omega);rw[zZ (by grind[wU])]at ok;exact ok.2.2.2.1 c (by grind[zFY])
theorem zAL{k:Nat}(hk:k≤x.zA.length):zeros (suf (exx D x m T) k).length=zeros (x.zA.length-k)++zeros D:=by grind[yM,wU,zeros,J9]
theorem zO5{k:Nat}(hk:k<x.zA.length){y:Vec}:V (suf (exx D x m T) (k+1)) (sgG D x m T k y):=by have ok:=zAb h hE hT (k:=k+1) (by omega);exact sD (yU ok) _ _ (zO4 h hE hT hk) (xR ok)
theorem zKn{k:Nat}(hk:k<x.zA.length){y u:Vec}(hy:V (suf x (k+1)) y)(hu:Row m.Prime D u):
  sig (suf (exx D x m T) (k+1)) (lvl (exx D x m T) k) (y++u)=(sgG D x m T k y).take (x.zA.length-(k+1))++adv m.Prime D ((sgG D x m T k y).drop (x.zA.length-(k+1))) (tJ m.Prime D u (m.zE.getD k [])):=by
 have hp:=hE.m.p.pos;have hA:=hE.m.mat k hk;have ff:=tW h (by omega) hy;unfold sig;rw[zFY h hE hT hk,zLH _ _ _ _ _ (by grind[zD4])];show img _ (eC2 x m D k) u (sgG D x m T k y)=_;obtain⟨y1,u1,e,fL,ml⟩:=(zBZ h hE hT (x.zA.length-(k+1)) (k+1) (by omega) _).1 (zO5 h hE hT hk (y:=y));have cK:=tW h (by omega) fL;rw[e,eC2,zTZ h hE hT hk,show x.zA.length-1-k=x.zA.length-(k+1)from by omega,zKm h hE hT (by omega) _ _ _ _ (fun r hr=>?_) fL ml,zES (by omega) _ _ _ (by rw[hA.1,hu.1]) (fun i hi=>(hu.2 i (by rw[←hu.1];exact hi)).1) ml,zO3 hA.1,Jp cK,K9 cK];obtain⟨j,hj,rfl⟩:=Jv.1 hr;have fj:=hA.1;have:=hA.2 j (by omega)
 grind
theorem zD5{k:Nat}(hk:k<x.zA.length){u:Vec}(hu:Row m.Prime D u):
  sig (suf (exx D x m T) (k+1)) (lvl (exx D x m T) k) (zeros (x.zA.length-(k+1))++u)=zeros (x.zA.length-(k+1))++tJ m.Prime D u (m.zE.getD k []):=by
 have hp:=hE.m.p.pos;have ok:=h.okAt (k:=k+1) (by omega);have hz:=xR ok;rw[yM]at hz;have e:sgG D x m T k (zeros (x.zA.length-(k+1)))=zeros (x.zA.length-(k+1))++zeros D:=by grind[sgG,zBb,zAL]
 rw[zKn h hE hT hk hz hu,e,Jp (zM _),K9 (zM _),zKl (uN (by omega))]
theorem zD6{k:Nat}(hk:k<x.zA.length):∀(q:Nat){u:Vec},Row m.Prime D u→
  iter q (sig (suf (exx D x m T) (k+1)) (lvl (exx D x m T) k)) (zeros (x.zA.length-(k+1))++u)=zeros (x.zA.length-(k+1))++iter q (fun u=>tJ m.Prime D u (m.zE.getD k [])) u
 |0,u,_=>rfl
 |q+1,u,hu=>by have hp:=hE.m.p.pos;show iter q _ (sig _ _ _)=_;rw[zD5 h hE hT hk hu,zD6 hk q (uN (by omega))];rfl
end
end Go.Pl

namespace Go.Pl
open Go Go.Ab Go.Wk Go.Pc
theorem zCu{p:Int}{D:Nat}{A:Mx}(hA:Mat p D A)(hp:2≤p){r:List Int}(hr:Row p D r):∀q,iter q (fun u=>tJ p D u A) r=tJ p D r (pw (PM p D) (idM D) A q)
 |0=>(zJh hr).symm
 |q+1=>by
  have hm:Mat p D (pw (PM p D) (idM D) A q):=wO (S:=Mat p D) (fun _ hB=>zBt (by omega) hB.1) q (zAj hp);unfold pw at*
  rw[vJ,vJ,zCu hA hp hr q];exact zLI hm.1
theorem zO6{p:Int}{D:Nat}(hp:0<p){r:List Int}:iter p.toNat (fun w=>adv p D w r) (zeros D)=zeros D:=by
 rw[zFZ hp _ _ (tY hp)];rw[show zeros D=mkv D fun _=>0 from kL D];refine yO fun j hj=>?_
 rw[xM hj,Us (by omega),Lw,Int.mul_emod_right]
theorem zKo{p:Int}{D:Nat}{A:Mx}:tJ p D (zeros D) A=zeros D:=by
 rw[show zeros D=mkv D fun _=>0 from kL D];refine yO fun j hj=>?_
 rw[zCm (g:=fun _=>0) fun l hl=>by rw[xM hl,Gb],zH8,Int.zero_emod]
theorem zEj{p:Int}{D q:Nat}{A:Mx}(hq:q<D)(hA:Mat p D A):tJ p D (xL D q) A=A.getD q []:=by
 have hr:=hA.2 q hq
 conv=>rhs;rw[tC hr.1]
 refine yO fun j hj=>?_
 rw[kN,zFK (k:=q) hq (fun i hi gf=>by rw[xM hi,if_neg gf,Gb]),xM hq,if_pos rfl,Qo,sQ (hr.2 j hj)]
theorem vY{p:Int}{D q:Nat}(hp:2≤p):Row p D (xL D q):=by rw[kN];exact⟨yT _ _,by grind[xM]⟩
theorem zGa{N D q:Nat}(hq:q<D):xL (N+D) (N+q)=zeros N++xL D q:=by
 rw[zAh (by omega),zAh hq,←Je]
 grind[zeros,J9]
def aM(m:zG)(D k:Nat)(v:Vec):Mx:=img (PM m.Prime D) (m.zE.drop k) v (idM D)
theorem zO7{p:Int}{D:Nat}(hp:2≤p):Mon (Mat p D) (PM p D) (idM D):=
 ⟨fun ha _=>zBt (by omega) ha.1,zAj (by omega),fun ha hb _=>zIT ha.1 hb.1,fun ha=>zH9 ha,fun ha=>zIU ha⟩
section
variable {D:Nat}{x:SPr}{m:zG}{T:Mx} (h:Pres x) (hE:ExB x.zA.length D x m T) (hT:∀i,i<T.length→Row m.Prime D (T.getD i []))
 include h hE hT
theorem zO8{k:Nat}(hk:k<x.zA.length):(eC1 x T k).map (·.take (x.zA.length-(k+1)))=(lvl x k).cs:=by
 have _:=hE;have _:=hT;have gC:=zAm h.w hk;apply K8;intro j
 by_cases g:j<x.zA.length-(k+1)
 ·obtain⟨c,_,_,c3,c4⟩:=zDx h hk g
  have hl:=tW h (by omega) c3;have e1:((eC1 x T k).map (·.take (x.zA.length-(k+1))))[j]? =aB (((lvl x k).cs.getD j []++T.getD (base x.zA.length k+j) []).take (x.zA.length-(k+1))):=by simp[eC1,gl,show j<x.zA.length-1-k by omega]
  grind
 ·rw[Ko (by simp[eC1,gl];omega),Ko (by omega)]
theorem zO9{k:Nat}{v:Vec}:Mat m.Prime D (aM m D k v):=by
 have _:=h;have _:=hT;have hp:=hE.m.p.pos;refine sD (fun ha _=>zBt (by omega) ha.1) _ _ (fun c hc=>?_) (zAj (by omega));obtain⟨i,hi,rfl⟩:=Jv.1 (Uf hc);have:=hE.m.mat i (by rw[←hE.m.len];exact hi)
 grind
theorem zJi{k:Nat}(hk:k<x.zA.length):m.zE.drop k=m.zE.getD k []::m.zE.drop (k+1):=by
 have _:=h;have _:=hT;have hl:=hE.m.len
 grind[Lh]
theorem zRc{k:Nat}(hk:k<x.zA.length){b:Int}{y:Vec}:aM m D k (b::y)=PM m.Prime D (pw (PM m.Prime D) (idM D) (m.zE.getD k []) b.toNat) (aM m D (k+1) y):=by
 have M:=zO7 hE.m.p.pos.1 (D:=D);unfold aM;rw[zJi h hE hT hk];refine tV M (hE.m.mat k hk) fun c hc=>?_
 obtain⟨i,hi,rfl⟩:=Jv.1 (Uf hc);have:=hE.m.mat i (by rw[←hE.m.len];exact hi)
 grind
theorem pwM{k q:Nat}(hk:k<x.zA.length):Mat m.Prime D (pw (PM m.Prime D) (idM D) (m.zE.getD k []) q):=by have _:=h;have _:=hT;have _:=hk;have hp:=hE.m.p.pos;exact wO (S:=Mat m.Prime D) (fun _ hB=>zBt (by omega) hB.1) q (zAj (by omega))
theorem zJj:∀(d k:Nat),k+d=x.zA.length→ ∀r y v,Row m.Prime D r→V (suf x k) y→Row m.Prime D v→mul (suf (exx D x m T) k) (zeros d++r) (y++v)=y++adv m.Prime D (tJ m.Prime D r (aM m D k y)) v
 |0,k,hk,r,y,v,hr,hy,hv=>by
  have hp:=hE.m.p.pos;rw[vN (x:=x) (k:=k) (by omega)]at hy;obtain rfl:y=[]:=hy;rw[zBw h hE hT D k (by omega) (by omega)];have e:aM m D k []=idM D:=by unfold aM;cases m.zE.drop k<;>rfl
  rw[e,zJh hr];exact jY (by omega) D r v hr hv
 |d+1,k,hk,r,y,v,hr,hy,hv=>by
  have hl:=wU h hE hT;have hp:=hE.m.p.pos;have hA:=hE.m.mat k (by omega);rw[zZ (x:=x) (by omega)]at hy;cases y with
  |nil=>exact hy.elim
  |cons b y=>
   obtain⟨⟨b0,b1⟩,hy⟩:=hy;change b<at0 x.zA k at b1;rw[zZ (x:=exx D x m T) (by omega)];show mul _ (0::(zeros d++r)) (b::(y++v))=_;have e:=zD6 h hE hT (k:=k) (by omega) b.toNat hr;rw[show x.zA.length-(k+1)=d from by omega]at e;rw[yJ,zD2 h hE hT (by omega),if_neg (by omega),e,zCu hA (by omega) hr,zJj d (k+1) (by omega) _ y v (uN (by omega)) hy hv,Lw,zRc h hE hT (by omega),←zLI (pwM h hE hT (by omega)).1];rfl
theorem zD7{k:Nat}(hk:k<x.zA.length)(ih:∀a b,V (suf (exx D x m T) (k+1)) a→V (suf (exx D x m T) (k+1)) b→(mul (suf (exx D x m T) (k+1)) a b).take (x.zA.length-(k+1))=mul (suf x (k+1)) (a.take (x.zA.length-(k+1))) (b.take (x.zA.length-(k+1)))){v:Vec}(hv:V (suf (exx D x m T) (k+1)) v):
  (sig (suf (exx D x m T) (k+1)) (lvl (exx D x m T) k) v).take (x.zA.length-(k+1))=sig (suf x (k+1)) (lvl x k) (v.take (x.zA.length-(k+1))):=by
 have ok:=zAb h hE hT (k:=k+1) (by omega);obtain⟨y,u,rfl,hy,hu⟩:=(zBZ h hE hT (x.zA.length-(k+1)) (k+1) (by omega) _).1 hv;have ff:=tW h (by omega) hy;obtain⟨y1,u1,e,fL,ml⟩:=(zBZ h hE hT (x.zA.length-(k+1)) (k+1) (by omega) _).1 (zO5 h hE hT hk (y:=y));have cK:=tW h (by omega) fL;rw[zKn h hE hT hk hy hu,Jp (by grind),Jp ff];unfold sgG sig;rw[zD3 (S:=V (suf (exx D x m T) (k+1))) (n:=mul (suf x (k+1))) (·.take (x.zA.length-(k+1))) (fun a b=>yU ok) ih _ _ _ (zO4 h hE hT hk) (xR ok),zO8 h hE hT hk,zAL h hE hT (by omega),Jp (zM _),yM]
theorem zCv:∀(d k:Nat),k+d=x.zA.length→ ∀a b,V (suf (exx D x m T) k) a→V (suf (exx D x m T) k) b→(mul (suf (exx D x m T) k) a b).take d=mul (suf x k) (a.take d) (b.take d)
 |0,k,hk,a,b,_,_=>by rw[vN (x:=x) (by omega),Lb];rfl
 |d+1,k,hk,a,b,ha,hb=>by
  have hl:=wU h hE hT;have ih:=zCv d (k+1) (by omega);have hd:d=x.zA.length-(k+1):=by omega
  have ok:=zAb h hE hT (k:=k+1) (by omega);have ok0:=zAb h hE hT (k:=k) (by omega);rw[hd]at ih;have hs:=fun v hv=>zD7 h hE hT (k:=k) (by omega) ih (v:=v) hv
  rw[zZ (x:=exx D x m T) (by omega)]at ha hb ok0 ⊢
  rw[zZ (x:=x) (by omega)];cases a with
  |nil=>rfl
  |cons a u=>
  cases b with
  |nil=>rfl
  |cons b v=>
   have eg:∀q u,V (suf (exx D x m T) (k+1)) u→(iter q (sig (suf (exx D x m T) (k+1)) (lvl (exx D x m T) k)) u).take d=iter q (sig (suf x (k+1)) (lvl x k)) (u.take d)∧V (suf (exx D x m T) (k+1)) (iter q (sig (suf (exx D x m T) (k+1)) (lvl (exx D x m T) k)) u):=by
    intro q
    induction q with
    |zero=>intro u hu;exact⟨rfl,hu⟩
    |succ q ihq=>
     intro u hu;have:=ihq _ (zBQ ok0 hu);rw[hd,hs u hu]at this;rw[hd];exact this
   obtain⟨hi1,tw⟩:=eg b.toNat u ha.2;have hm:=yU ok tw hb.2;rw[yJ,K6,K6,yJ,zD2 h hE hT (by omega),show(lvl x k).o=at0 x.zA k from rfl];have e1:=ih _ _ tw hb.2;rw[←hd,hi1]at e1;split
   ·rw[K6]
    have e2:=ih _ _ ok0.2.1 hm;rw[←hd,e1]at e2;rw[e2]
    congr 2
    have ht:=(h.tl k (by omega)).1;have hw:=zGR ht (by omega);have hwl:(lvl x k).w.length=x.zA.length-(k+1):=tW h (by omega) hw;rw[zJg h hE hT (by omega),Jp (by omega)]
   grind
end
end Go.Pl

namespace Go.Pl
open Go Go.Ab Go.Wk Go.Pc
theorem zMD{p:Int}{d:Nat}(hp:2≤p):∀c∈yZ d,Row p d c:=fun c hc=>by obtain⟨k,_,rfl⟩:=Jd.1 hc;exact vY hp
theorem zRd{p:Int}(hp:2≤p){d:Nat}{w:Vec}(hw:Row p d w):sig (tlv p d) ⟨p,zeros d,yZ d⟩ w=w:=by
 unfold sig;rw[zER,zCs (S:=Row p d) (m':=adv p d) (by grind[jY]) (fun _ _ _ _=>zAD (by omega)) (yZ d) w _ (zMD hp) (tY (by omega)),zES (by omega) (yZ d) w _ (by rw[hw.1];simp[yZ]) (fun i hi=>(hw.2 i (by rw[←hw.1];exact hi)).1) (tY (by omega))]
 conv=>rhs;rw[tC hw.1]
 refine yO fun j hj=>?_
 have fQ:(yZ d).length=d:=by simp[yZ]
 rw[fQ,sS,Lw,zFK (k:=j) hj (fun k hk gf=>by rw[zCt hk hj,if_neg (Ne.symm gf),U9]),zCt hj hj,if_pos rfl,Gr,sQ (hw.2 j hj)]
structure LCn (x e:SPr) (k:Nat):Prop where
 c1:∀j,k+1≤j→j<x.zA.length→pw (mul (suf e (k+1))) (zeros (suf e (k+1)).length) ((lvl e k).cs.getD (j-(k+1)) []) (at0 e.zA j).toNat=sig (suf e (k+1)) (lvl e k) ((e.zF.getD j []).drop (k+1))
 c2:∀i,k+1≤i→i<x.zA.length→ ∀j,i+1≤j→j<x.zA.length→
  mul (suf e (k+1)) ((lvl e k).cs.getD (j-(k+1)) []) ((lvl e k).cs.getD (i-(k+1)) [])=mul (suf e (k+1)) ((lvl e k).cs.getD (i-(k+1)) []) (sig (suf e (k+1)) (lvl e k) (((e.zB.getD i []).getD (j-(i+1)) []).drop (k+1)))
 c3:sig (suf e (k+1)) (lvl e k) (lvl e k).w=(lvl e k).w
 c4:∀j,k+1≤j→j<x.zA.length→mul (suf e (k+1)) (lvl e k).w (iter (lvl e k).o.toNat (sig (suf e (k+1)) (lvl e k)) (xL (e.zA.length-(k+1)) (j-(k+1))))=mul (suf e (k+1)) (xL (e.zA.length-(k+1)) (j-(k+1))) (lvl e k).w
section
variable {D:Nat}{x:SPr}{m:zG}{T:Mx} (h:Pres x) (hE:ExB x.zA.length D x m T) (hT:∀i,i<T.length→Row m.Prime D (T.getD i []))
 include h hE hT
theorem zLK{k j:Nat}(hk:k<x.zA.length)(hj:x.zA.length≤j)(h2:j<x.zA.length+D):(lvl (exx D x m T) k).cs.getD (j-(k+1)) []=zeros (x.zA.length-(k+1))++(m.zE.getD k []).getD (j-x.zA.length) []:=by
 rw[zFY h hE hT hk,J2,Ja (by grind[zD4]),zD4 h hE hT,eC2]
 grind
theorem zLL{k j:Nat}(hk:k<x.zA.length)(hj:k+1≤j)(h2:j<x.zA.length):(lvl (exx D x m T) k).cs.getD (j-(k+1)) []=(lvl x k).cs.getD (j-(k+1)) []++T.getD (base x.zA.length k+(j-(k+1))) []:=by
 rw[zFY h hE hT hk,J2,Jz (by grind[zD4]),eC1]
 grind
theorem zJk{i j:Nat}(hi:i<j)(hj:j<x.zA.length):Row m.Prime D (T.getD (base x.zA.length i+(j-(i+1))) []):=by have _:=h;have hn:=hE.hn;have hb:=zCr x.zA.length (by omega) i (by omega);exact hT _ (by rw[hE.t];omega)
theorem zEk{i:Nat}(hi:i<x.zA.length):Row m.Prime D (T.getD i []):=by have _:=h;have hn:=hE.hn;have hb:=uO x.zA.length (by omega);exact hT _ (by rw[hE.t];omega)
theorem zHF{k j:Nat}(hj:k≤j)(h2:j<x.zA.length):((exx D x m T).zF.getD j []).drop (k+1)=(x.zF.getD j []).drop (k+1)++T.getD j []:=by have t1:=(h.tl j h2).1.1.1;have _:=hE;have _:=hT;have hP:(exx D x m T).zF.getD j []=exP x.zA.length D x T j:=wQ (by omega);rw[hP,exP,if_pos h2,K3 (by omega)]
theorem zUa{k j:Nat}(hk:k<x.zA.length)(hj:x.zA.length≤j)(h2:j<x.zA.length+D):((exx D x m T).zF.getD j []).drop (k+1)=zeros (x.zA.length-(k+1))++zeros D:=by
 have _:=h;have _:=hE;have _:=hT;have hP:(exx D x m T).zF.getD j []=exP x.zA.length D x T j:=wQ (by omega);rw[hP,exP,if_neg (by omega),Ky]
 grind[zeros,J9]
theorem zGb{i:Nat}(hi:i<x.zA.length+D):(exx D x m T).zB.getD i []=exC x.zA.length D x m T i:=by
 have _:=h;have _:=hE;have _:=hT;show(gl (x.zA.length+D) (exC x.zA.length D x m T)).getD i []=_
 grind
theorem zHG{k i j:Nat}(hk:k≤i)(hi:i<j)(hj:j<x.zA.length):(((exx D x m T).zB.getD i []).getD (j-(i+1)) []).drop (k+1)=((x.zB.getD i []).getD (j-(i+1)) []).drop (k+1)++T.getD (base x.zA.length i+(j-(i+1))) []:=by obtain⟨_,t2,t3⟩:=h.tl i (by omega);have t:=(t3 (j-(i+1)) (by omega)).1.1;rw[zGb h hE hT (by omega),exC,if_pos (by omega),wQ (by omega),exF,if_pos (by omega),K3 (by omega)]
theorem zOA{k i j:Nat}(hk:k<x.zA.length)(hi:i<x.zA.length)(hj:x.zA.length≤j)(h2:j<x.zA.length+D):(((exx D x m T).zB.getD i []).getD (j-(i+1)) []).drop (k+1)=zeros (x.zA.length-(k+1))++(m.zE.getD i []).getD (j-x.zA.length) []:=by rw[zGb h hE hT (by omega),exC,if_pos (by omega),wQ (by omega),exF,if_neg (by omega),K3 (by simp;omega),Ky,show j-(i+1)-(x.zA.length-1-i)=j-x.zA.length from by omega];rfl
theorem zUb{k i j:Nat}(hk:k<x.zA.length)(hi:x.zA.length≤i)(hj:i<j)(h2:j<x.zA.length+D):(((exx D x m T).zB.getD i []).getD (j-(i+1)) []).drop (k+1)=zeros (x.zA.length-(k+1))++xL D (j-x.zA.length):=by
 rw[zGb h hE hT (by omega),exC,if_neg (by omega),unC,wQ (by omega),vD,zFX,←zGa (by omega),kN]
 grind
theorem zRe(hr:zCY x m D){k:Nat}(hk:k<x.zA.length):pw (PM m.Prime D) (idM D) (m.zE.getD k []) (at0 x.zA k).toNat=aM m D (k+1) (lvl x k).w∧
  ∀i,k<i→i<x.zA.length→PM m.Prime D (m.zE.getD i []) (m.zE.getD k [])=PM m.Prime D (m.zE.getD k []) (aM m D (k+1) ((lvl x k).cs.getD (i-(k+1)) [])):=by
 have R:=zLG h hE.m hr (x.zA.length-k) k (by omega);rw[zZ hk,zJi h hE hT hk]at R;obtain⟨r1,r2,_⟩:=R;refine⟨r1,fun i h1 h2=>?_⟩;have gC:=zAm h.w hk;have hl:=hE.m.len;refine r2 (i-(k+1)) _ _ ?_ ?_
 all_goals grind
theorem zv{k:Nat}(hk:k≤x.zA.length):V (suf x k) (zeros (x.zA.length-k)):=by
 have _:=hE;have _:=hT;have:=xR (h.okAt hk)
 grind[yM]
theorem zUc(hr:zCY x m D){k:Nat}(hk:k<x.zA.length)(hc:LCn x (exx D x m T) k):LC (exx D x m T) k:=by
 have hp:=hE.m.p.pos;have hl:=wU h hE hT;have hA:=hE.m.mat k hk;obtain⟨r1,r2⟩:=zRe h hE hT hr hk;have hz:=zv h hE hT (k:=k+1) (by omega);have mY:Row m.Prime D (zeros D):=tY (by omega);have hw:=(zOr h hk).2;refine⟨fun j h1 h2=>?_,fun i h1 h2 j h3 h4=>?_,hc.c3,fun j h1 h2=>?_⟩
 ·rw[hl]at h2
  rcases K2 j x.zA.length with g|g
  ·exact hc.c1 j h1 g
  ·have hq:=hA.2 (j-x.zA.length) (by omega)
   rw[zLK h hE hT hk g h2,zUa h hE hT hk g h2,zD5 h hE hT hk mY,zKo,zBv h hE hT g h2,zAL h hE hT (by omega)];have e:=zKm h hE hT (d:=x.zA.length-(k+1)) (k:=k+1) (by omega) [(m.zE.getD k []).getD (j-x.zA.length) []] [m.Prime] _ _ (by grind) hz mY;have e2:iter m.Prime.toNat (fun w=>adv m.Prime D w ((m.zE.getD k []).getD (j-x.zA.length) [])) (zeros D)=zeros D:=zO6 (by omega);unfold pw;refine e.trans ?_;show zeros _++iter m.Prime.toNat (fun w=>adv m.Prime D w ((m.zE.getD k []).getD (j-x.zA.length) [])) (zeros D)=_;rw[e2]
 ·rw[hl]at h4
  rcases K2 j x.zA.length with g|g
  ·exact hc.c2 i h1 (by omega) j h3 g
  ·have hq:=hA.2 (j-x.zA.length) (by omega)
   rw[zLK h hE hT hk g h4];rcases K2 i x.zA.length with gi|gi
   ·have mZ:=hE.m.mat i gi
    have pQ:=mZ.2 (j-x.zA.length) (by omega);have fe:=(tX h hk h1 gi).2.2;have ht:=zJk h hE hT (i:=k) (j:=i) (by omega) gi;rw[zLL h hE hT hk h1 gi,zOA h hE hT hk gi g h4,zD5 h hE hT hk pQ,zJj h hE hT _ (k+1) (by omega) _ _ _ hq fe ht,zE6 h hE hT _ (k+1) (by omega) _ _ _ fe ht (uN (by omega)),zA0]
    congr 2
    rw[←zAy (by rw[hA.1];omega),←zAy (by rw[mZ.1];omega),r2 i (by omega) gi]
   ·have pQ:=hA.2 (i-x.zA.length) (by omega)
    rw[zLK h hE hT hk gi (by omega),zUb h hE hT hk gi (by omega) h4,zD5 h hE hT hk (vY (by omega)),zEj (by omega) hA,zE6 h hE hT _ (k+1) (by omega) _ _ _ hz hq pQ,zE6 h hE hT _ (k+1) (by omega) _ _ _ hz pQ hq,zA0]
 ·rw[hl]at h2 ⊢
  rcases K2 j x.zA.length with g|g
  ·have:=hc.c4 j h1 g
   grind
  ·have ht:=zEk h hE hT hk
   have hu:Row m.Prime D (xL D (j-x.zA.length)):=vY (by omega);rw[show x.zA.length+D-(k+1)=x.zA.length-(k+1)+D from by omega,show j-(k+1)=x.zA.length-(k+1)+(j-x.zA.length)from by omega,zGa (by omega),zD2 h hE hT hk,zD6 h hE hT hk _ hu,zJg h hE hT hk,zCu hA (by omega) hu,r1,zJj h hE hT _ (k+1) (by omega) _ _ _ hu hw ht,zE6 h hE hT _ (k+1) (by omega) _ _ _ hw ht (uN (by omega)),zA0]
theorem zUd{k:Nat}(hk:x.zA.length≤k)(h2:k<x.zA.length+D):LC (exx D x m T) k:=by
 have hp:=hE.m.p.pos;have hl:=wU h hE hT;have hs:=zBw h hE hT (x.zA.length+D-(k+1)) (k+1) (by omega) (by omega);have hL:=zBw h hE hT (x.zA.length+D-(k+1)+1) k (by omega) (by omega);rw[zZ (by omega),hs,tlv]at hL;have pi:lvl (exx D x m T) k=⟨m.Prime,zeros (x.zA.length+D-(k+1)),yZ (x.zA.length+D-(k+1))⟩:=(Q9.inj hL).1
 generalize hd:x.zA.length+D-(k+1)=d at*
 have ep:∀w,Row m.Prime d w→sig (tlv m.Prime d) ⟨m.Prime,zeros d,yZ d⟩ w=w:=by grind[zRd]
 have ba:Row m.Prime d (zeros d):=tY (by omega);have bE:∀j,(yZ d).getD j []=if j<d then xL d j else[]:=fun j=>by
  by_cases g:j<d
  ·rw[if_pos g,zFG g]
  ·rw[if_neg g,J2,Ko (by grind[yZ])];rfl
 refine⟨fun j h1 h3=>?_,fun i h1 h3 j h4 h5=>?_,?_,fun j h1 h3=>?_⟩
 ·rw[hl]at h3
  have hP:(exx D x m T).zF.getD j []=exP x.zA.length D x T j:=wQ (by omega);rw[hs,pi,zBv h hE hT (by omega) h3,hP,exP,if_neg (by omega),Ky,hd];show pw (mul (tlv m.Prime d)) (zeros (tlv m.Prime d).length) ((yZ d).getD (j-(k+1)) []) m.Prime.toNat=sig (tlv m.Prime d) ⟨m.Prime,zeros d,yZ d⟩ (zeros d);rw[ep _ ba,bE,if_pos (by omega),zER];have e:=zCs (S:=Row m.Prime d) (m':=adv m.Prime d) (fun a b ha hb=>jY (by omega) d a b ha hb) (fun _ _ _ _=>zAD (by omega)) [xL d (j-(k+1))] [m.Prime] (zeros d) (by grind[vY]) ba;exact e.trans (zO6 (by omega))
 ·rw[hl]at h3 h5
  rw[hs,pi,zGb h hE hT h3,exC,if_neg (by omega),unC,wQ (by omega),vD,zFX,hd];have e:(mkv d fun q=>if k+1+q=i+1+(j-(i+1))then(1:Int)else 0)=xL d (j-(k+1)):=by
   rw[kN]
   grind
  rw[e,ep _ (vY (by omega))];show mul (tlv m.Prime d) ((yZ d).getD (j-(k+1)) []) ((yZ d).getD (i-(k+1)) [])=mul (tlv m.Prime d) ((yZ d).getD (i-(k+1)) []) (xL d (j-(k+1)));rw[bE,bE,if_pos (by omega),if_pos (by omega),jY (by omega) d _ _ (vY (by omega)) (vY (by omega)),jY (by omega) d _ _ (vY (by omega)) (vY (by omega)),zA0]
 ·grind
 ·rw[hl]at h3 ⊢
  have hu:Row m.Prime d (xL d (j-(k+1))):=vY (by omega);rw[hs,pi,hd,zFV (ep _ hu),jY (by omega) d _ _ ba hu,jY (by omega) d _ _ hu ba,zA0]
theorem zJl:∀(d k:Nat),x.zA.length≤k→k+d=x.zA.length+D→xX (suf (exx D x m T) k)
 |0,k,hk,hd=>by rw[vN (by grind[wU])];simp only[xX]
 |d+1,k,hk,hd=>(kK (zD1 h hE hT) (by rw[wU h hE hT];omega)).2 ⟨zJl d (k+1) (by omega) (by omega),by grind[zUd]⟩
theorem zRf(hr:zCY x m D):xX (suf (exx D x m T) 0)↔ ∀k,k<x.zA.length→LCn x (exx D x m T) k:=by
 have hl:=wU h hE hT;have key:∀(d k:Nat),k+d=x.zA.length→(xX (suf (exx D x m T) k)↔ ∀i,k≤i→i<x.zA.length→LCn x (exx D x m T) i):=by
  intro d
  induction d with
  |zero=>grind[zJl]
  |succ d ih=>
   intro k hk;rw[kK (zD1 h hE hT) (by omega),ih (k+1) (by omega)];constructor
   ·rintro⟨g1,g2⟩ i h1 h2
    rcases K2 k i with g|g
    ·grind
    ·obtain rfl:i=k:=by omega
     exact⟨fun j a b=>g2.c1 j a (by omega),fun i a b j c d=>g2.c2 i a (by omega) j c (by omega),g2.c3,fun j a b=>g2.c4 j a (by omega)⟩
   grind[zUc]
 simp_all
end
end Go.Pl
