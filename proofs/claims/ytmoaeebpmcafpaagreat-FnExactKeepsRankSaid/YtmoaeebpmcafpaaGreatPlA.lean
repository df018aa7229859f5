/- The program's KeepsRank returns what the reference's returns,for all arguments;no conditions. -/
import Derived.Test.YtmoaeebpmcafpaaGreatAbB
import Derived.Test.YtmoaeebpmcafpaaGreatWF
open List renaming replicate→J1,getD_eq_getElem?_getD→J2,getElem?_eq_getElem→J3,length_append→J5,length_cons→J7,mem_cons→J9,getElem?_append_right→Ja,length_replicate→Jb,mem_append→Jd,append_nil→Je,append_assoc→Jf,range→Jg,length_map→Ji,replicate_append_replicate→Jk,mem_map→Jl,map_cons→Jn,length_nil→Jq,getElem?_eq_some_iff→Js,take_of_length_le→Jt,replicate_succ→Ju,nil_append→Jv,getElem?_append_left→Jx,take_succ_eq_append_getElem→Jz,length_drop→K3,getElem?_eq_none→K4,getElem?_map→K5,cons_append→K6,getElem_mem→K8,eq_of_mem_replicate→K9,take_zero→Ka,length_take→Kc,mem_iff_getElem→Ke,getElem?_replicate→Kf,mem_range→Kn,getElem?_append→Kq,range'→Kx,ext_getElem?→Ky,map_append→L8,length_range→Le,take_succ_cons→Lf,range_succ→Ll,range_eq_range'→Lm,eq_nil_of_length_eq_zero→Lp,mem_flatMap→Lr,replicate_succ'→Lw,replicate_zero→H2,singleton_append→H4,set_cons_zero→H5,getElem?_drop→Hi,flatten_nil→G1,drop_zero→Ge,getD_cons_zero→Gu,foldl_append→Gx,map_nil→U2,flatMap_append→U4,drop_of_length_le→Ue,set_append_right→Uj,drop_eq_getElem_cons→Uk,not_mem_nil→Q5,getElem?_cons_succ→Q6,all_cons→Q7,getElem?_set_ne→Qa,map_congr_left→Qd,getElem?_cons_zero→Qr,take_length→Ja1,suffix_cons_iff→Jag,map_map→Jah,range_succ_eq_map→Jaq,take_append_drop→Jay,length→Jba,findSome?_cons→Jbf,getElem?_set→Jbm,getD_cons_succ→Jc9,getElem?_take→Jcd,range'_succ→Jcw
open Bool renaming and_eq_true→J4,not_true→Jo,not_false→Kd
open Int renaming toNat_natCast→J8,mul_emod→Jw,emod_eq_of_lt→Jy,emod_emod→K7,add_emod→Kh,emod_lt_of_pos→Kk,mul_zero→Kw,tmod_eq_emod_of_nonneg→Kz,emod_nonneg→L4,zero_add→Lh,mul_le_mul→Lq,add_mul_emod_self_left→Ls,mul_one→Lz,add_zero→H0,mul_le_mul_of_nonneg_left→H7,mul_assoc→Hy,mul_nonneg→Gf,mul_comm→Gt,toNat_zero→Gw,add_emod_right→Uu,zero_mul→Q8,sub_mul→Qs,mul_add→Qt,add_mul→Qu,tmod_add_mul_tdiv→Jak,tmod_lt_of_pos→Jb0,lt_tmod_of_pos→Jb1,one_mul→Jbj,tmod→Jbn,sub_zero→Jca,lt_trichotomy→Jcb,emod_add_emod→Jcc,toNat_of_nonneg→Jcx
open Nat renaming zero_add→Jc,le_refl→Jh,lt_or_ge→Jj,zero_le→Kg,sub_self→Kj,div_add_mod→Lg,le_trans→Hb,lt_trichotomy→Hq,sub_zero→Ui,add_zero→Qh,min_eq_left→Ja0,lt_irrefl→Jbk,zero_sub→Jc7
open Option renaming map_eq_some_iff→Ko,some→Lu,map_some→H3,getD_some→Qc
open Option renaming some→iG,none→iH
open Bool renaming true→iI,false→iJ
namespace Go.Pc
abbrev Vec:=List Int
structure Lvl where
 o:Int
 w:Vec
 cs:List Vec
abbrev Pcp:=List Lvl
def zeros(n:Nat):Vec:=J1 n 0
def iter{α:Type}:Nat→(α→α)→α→α
 |0,_,x=>x
 |n+1,f,x=>iter n f (f x)
theorem vH{α:Type}(f:α→α):∀(n:Nat)(x:α),iter (n+1) f x=f (iter n f x)
 |0,_=>rfl
 |n+1,x=>by rw[iter,vH f n (f x)];rfl
theorem zEP{α:Type}(f:α→α)(a:Nat):∀(b:Nat)(x:α),iter (a+b) f x=iter a f (iter b f x)
 |0,_=>rfl
 |b+1,x=>by show iter (a+b) f (f x)=_;rw[zEP f a b (f x)];rfl
def img{α:Type}(m:α→α→α):List α→Vec→α→α
 |c::cs,x::xs,acc=>img m cs xs (iter x.toNat (fun v=>m v c) acc)
 |_,_,acc=>acc
def V:Pcp→Vec→Prop
 | [],v=>v=[]
 |l::P,v=>match v with
  | []=>False
  |a::x=>(0≤a∧a<l.o)∧V P x
def mul:Pcp→Vec→Vec→Vec
 |l::P,a::x,b::y=>
  let r:=mul P (iter b.toNat (fun v=>img (mul P) l.cs v (zeros P.length)) x) y
  if a+b≥l.o then(a+b-l.o)::mul P l.w r else(a+b)::r
 |_,_,_=>[]
def Ok:Pcp→Prop
 | []=>True
 |l::P=>1<l.o∧V P l.w∧l.cs.length=P.length∧(∀c∈l.cs,V P c)∧Ok P
structure Mon {α:Type} (S:α→Prop) (m:α→α→α) (e:α):Prop where
 cl:∀{a b},S a→S b→S (m a b)
 ein:S e
 assoc:∀{a b c},S a→S b→S c→m (m a b) c=m a (m b c)
 onel:∀{a},S a→m e a=a
 oner:∀{a},S a→m a e=a
structure Grp {α:Type} (S:α→Prop) (m:α→α→α) (e:α):Prop extends Mon S m e where
 inv:∀{a},S a→ ∃b,S b∧m a b=e
theorem Grp.invl{α:Type}{S:α→Prop}{m:α→α→α}{e:α}(h:Grp S m e){a:α}(ha:S a):∃b,S b∧m a b=e∧m b a=e:=by
 obtain⟨b,hb,h1⟩:=h.inv ha;obtain⟨c,hc,h2⟩:=h.inv hb;refine⟨b,hb,h1,?_⟩;have:a=c:=by rw[←h.oner ha,←h2,←h.assoc ha hb hc,h1,h.onel hc]
 grind
theorem Grp.cancel_l{α:Type}{S:α→Prop}{m:α→α→α}{e:α}(h:Grp S m e){a b c:α}(ha:S a)(hb:S b)(hc:S c)(hh:m a b=m a c):b=c:=by obtain⟨d,hd,_,h2⟩:=h.invl ha;rw[←h.onel hb,←h.onel hc,←h2,h.assoc hd ha hb,h.assoc hd ha hc,hh]
section
variable {α:Type}{S:α→Prop}{m:α→α→α}{e:α}
def pw(m:α→α→α)(e:α)(x:α)(k:Nat):α:=iter k (fun v=>m v x) e
theorem tS(h:Mon S m e){x:α}(hx:S x):∀k,S (pw m e x k)
 |0=>h.ein
 |k+1=>by rw[pw,vH];exact h.cl (tS h hx k) hx
theorem vR{f:α→α}(hf:∀a,S a→S (f a)):∀(k:Nat){x:α},S x→S (iter k f x)
 |0,_,hx=>hx
 |k+1,_,hx=>vR hf k (hf _ hx)
theorem zEQ(h:Mon S m e){x a:α}(hx:S x)(ha:S a):∀k,iter k (fun v=>m v x) a=m a (pw m e x k)
 |0=>(h.oner ha).symm
 |k+1=>by rw[vH,zEQ h hx ha k];show _=m a (iter (k+1) (fun v=>m v x) e);rw[vH];exact h.assoc ha (tS h hx k) hx
theorem zHP(h:Mon S m e){x:α}(hx:S x)(a b:Nat):pw m e x (a+b)=m (pw m e x a) (pw m e x b):=by rw[Nat.add_comm,pw,zEP,←zEQ h hx (tS h hx a) b];rfl
theorem zSV(h:Mon S m e){x:α}(hx:S x):pw m e x 1=x:=h.onel hx
theorem zSW(h:Mon S m e){x:α}(hx:S x)(k:Nat):pw m e x (k+1)=m x (pw m e x k):=by rw[Nat.add_comm,zHP h hx 1 k,zSV h hx]
theorem qY(h:∀{a b},S a→S b→S (m a b)):∀(cs:List α)(x:Vec){a:α},(∀c∈cs,S c)→S a→S (img m cs x a)
 |c::cs,x::xs,_,hc,ha=>by simp only[img];exact qY h cs xs (by grind) (vR (by simp_all) _ ha)
 | [],_,_,_,ha=>by grind[img]
 |_::_,[],_,_,ha=>by grind[img]
theorem zFO(h:Mon S m e)(cs:List α)(x:Vec){a:α}(hc:∀c∈cs,S c)(ha:S a):S (img m cs x a):=qY h.cl cs x hc ha
theorem zER(h:Mon S m e):∀(cs:List α)(x:Vec){a:α},(∀c∈cs,S c)→S a→img m cs x a=m a (img m cs x e)
 |c::cs,x::xs,a,hc,ha=>by
  have h1:S c:=hc c (by simp);have h2:∀c∈cs,S c:=by grind
  simp only[img];rw[zEQ h h1 ha,zER h cs xs h2 (h.cl ha (tS h h1 _)),zEQ h h1 h.ein,zER h cs xs h2 (h.cl h.ein (tS h h1 _)),h.onel (tS h h1 _),
   h.assoc ha (tS h h1 _) (zFO h cs xs h2 h.ein)]
 | [],_,a,_,ha=>by simp[img,h.oner ha]
 |_::_,[],a,_,ha=>by simp[img,h.oner ha]
theorem qU(h:Mon S m e){c:α}{cs:List α}{x:Int}{xs:Vec}(hc:S c)(gK:∀c∈cs,S c):img m (c::cs) (x::xs) e=m (pw m e c x.toNat) (img m cs xs e):=by simp only[img];rw[zER h cs xs gK (vR (fun a ha=>h.cl ha hc) _ h.ein)];rfl
theorem qG(m:α→α→α):∀(cs:List α)(n:Nat)(a:α),img m cs (zeros n) a=a
 | [],_,_=>by simp[img]
 |_::_,0,_=>by rfl
 |c::cs,n+1,a=>by simp only[zeros,Ju,img,Gw,iter];exact qG m cs n a
theorem zHQ(h:Mon S m e){g:α}(hg:S g):∀(cs ds:List α)(x:Vec),(∀c∈cs,S c)→(∀c∈ds,S c)→cs.length=ds.length→(∀(k:Nat) c d,cs[k]? =iG c→ds[k]? =iG d→m c g=m g d)→m (img m cs x e) g=m g (img m ds x e)
 | [],[],x,_,_,_,_=>by simp[img,h.onel hg,h.oner hg]
 |c::cs,d::ds,[],_,_,_,_=>by simp[img,h.onel hg,h.oner hg]
 |c::cs,d::ds,x::xs,hc,hd,hl,hp=>by
  have gS:S c:=hc c (by simp);have hd0:S d:=hd d (by simp);have gK:∀c∈cs,S c:=by grind
  have me:∀c∈ds,S c:=by grind
  have key:∀k,m (pw m e c k) g=m g (pw m e d k):=by
   intro k
   induction k with
   |zero=>simp[pw,iter,h.onel hg,h.oner hg]
   |succ k ih=>
    have h0:m c g=m g d:=hp 0 c d rfl rfl;rw[pw,vH,pw,vH];show m (m (pw m e c k) c) g=m g (m (pw m e d k) d);rw[h.assoc (tS h gS k) gS hg,h0,←h.assoc (tS h gS k) hg hd0,ih,h.assoc hg (tS h hd0 k) hd0]
  rw[qU h gS gK,qU h hd0 me,h.assoc (tS h gS _) (zFO h _ _ gK h.ein) hg,zHQ h hg cs ds xs gK me (by grind) (fun k c d h1 h2=>hp (k+1) c d (by grind) (by grind)),
   ←h.assoc (tS h gS _) hg (zFO h _ _ me h.ein),key,h.assoc hg (tS h hd0 _) (zFO h _ _ me h.ein)]
theorem zPI{β:Type}{T:β→Prop}{n:β→β→β}{f:β}(h:Mon S m e)(h':Mon T n f)(φ:α→β)(gQ:∀a,S a→T (φ a))(h1:φ e=f)(hm:∀a b,S a→S b→φ (m a b)=n (φ a) (φ b)):∀(cs:List α)(x:Vec),(∀c∈cs,S c)→φ (img m cs x e)=img n (cs.map φ) x f
 | [],_,_=>by simp[img,h1]
 |c::cs,[],_=>by simp[img,h1]
 |c::cs,x::xs,hc=>by
  have gS:S c:=hc c (by simp);have gK:∀c∈cs,S c:=by grind
  have key:∀k,φ (pw m e c k)=pw n f (φ c) k:=by
   intro k
   induction k with
   |zero=>grind[pw,iter]
   |succ k ih=>
    grind[pw,vH,tS]
  rw[qU h gS gK,Jn,qU h' (gQ c gS) (by simp_all),hm _ _ (tS h gS _) (zFO h _ _ gK h.ein),key,zPI h h' φ gQ h1 hm cs xs gK]
end
theorem wS:∀{P:Pcp},Ok P→V P (zeros P.length)
 | [],_=>rfl
 |l::P,h=>by simp only[Ok]at h;simp only[J7,zeros,Ju,V];exact⟨by omega,wS h.2.2.2.2⟩
theorem xH:∀{P:Pcp},Ok P→ ∀{x y:Vec},V P x→V P y→V P (mul P x y)
 | [],_,_,_,hx,hy=>by rfl
 |l::P,h,[],_,hx,_=>by grind[V]
 |l::P,h,_::_,[],_,hy=>by grind[V]
 |l::P,h,a::x,b::y,hx,hy=>by
  simp only[Ok]at h;simp only[V]at hx hy;have h1:∀v,V P v→V P (img (mul P) l.cs v (zeros P.length)):=fun v hv=>qY (xH h.2.2.2.2) l.cs v h.2.2.2.1 (wS h.2.2.2.2)
  have h2:=xH h.2.2.2.2 (vR h1 b.toNat hx.2) hy.2;simp only[mul];split
  ·exact⟨by omega,xH h.2.2.2.2 h.2.1 h2⟩
  ·exact⟨by omega,h2⟩
def Rel{α:Type}(m:α→α→α)(e:α):Pcp→List α→Prop
 | [],s=>s=[]
 |l::P,s=>match s with
  | []=>False
  |g::s=>pw m e g l.o.toNat=img m s l.w e∧(∀(k:Nat) c d,s[k]? =iG c→l.cs[k]? =iG d→m c g=m g (img m s d e))∧Rel m e P s
section
variable {α:Type}{S:α→Prop}{m:α→α→α}{e:α}
theorem yBv(h:Mon S m e):∀(P:Pcp)(s:List α),Ok P→(∀g∈s,S g)→Rel m e P s→ ∀x y,V P x→V P y→img m s (mul P x y) e=m (img m s x e) (img m s y e)
 | [],s,_,_,hr,x,y,hx,hy=>by simp only[Rel]at hr;subst hr;simp[img,h.onel h.ein]
 |l::P,[],_,_,hr,_,_,_,_=>by grind[Rel]
 |l::P,g::s,_,_,_,[],_,hx,_=>by grind[V]
 |l::P,g::s,_,_,_,_::_,[],_,hy=>by grind[V]
 |l::P,g::s,hk,hs,hr,a::x,b::y,hx,hy=>by
  simp only[Ok]at hk;simp only[Rel]at hr;simp only[V]at hx hy;obtain⟨ho,hw,gC,gK,dh⟩:=hk;obtain⟨fc,fO,pb⟩:=hr;have hg:S g:=hs g (by simp);have mq:∀c∈s,S c:=by grind
  have gj:s.length=P.length:=by
   clear fc fO hx hy hw gC gK hs mq
   induction P generalizing s with
   |nil=>grind[Rel]
   |cons l P ih=>
    cases s with
    |nil=>grind[Rel]
    |cons c s=>grind[Rel,Ok]
  have ih:=yBv h P s dh mq pb;have hφ:∀v,S (img m s v e):=fun v=>zFO h s v mq h.ein
  have hmP:∀{a b},V P a→V P b→V P (mul P a b):=xH dh;have t9:∀v,V P v→V P (img (mul P) l.cs v (zeros P.length)):=fun v hv=>qY hmP l.cs v gK (wS dh)
  have hσ:∀v,V P v→m (img m s v e) g=m g (img m s (img (mul P) l.cs v (zeros P.length)) e):=by
   intro v hv;have key:∀(cs:List Vec)(v:Vec)(acc:Vec),(∀c∈cs,V P c)→V P acc→img m s (img (mul P) cs v acc) e=img m (cs.map fun c=>img m s c e) v (img m s acc e):=by
    intro cs
    induction cs with
    |nil=>grind[img]
    |cons c cs ihc=>
     intro v acc hc hacc;cases v with
     |nil=>simp[img]
     |cons z v=>
      have gS:V P c:=hc c (by simp);have it:∀k acc,V P acc→img m s (iter k (fun v=>mul P v c) acc) e=iter k (fun v=>m v (img m s c e)) (img m s acc e):=by
       intro k
       induction k with
       |zero=>intro acc _;rfl
       |succ k ihk=>
        simp_all[iter]
      simp only[img,Jn];rw[ihc v _ (by simp_all) (vR (by grind) _ hacc),it _ _ hacc]
   rw[key l.cs v (zeros P.length) gK (wS dh),qG];refine zHQ h hg s _ v mq (by simp_all) (by grind) ?_;intro k c d hc hd;simp only[K5,Ko]at hd;obtain⟨d',bw,rfl⟩:=hd
   grind
  have hσk:∀k v,V P v→m (img m s v e) (pw m e g k)=m (pw m e g k) (img m s (iter k (fun v=>img (mul P) l.cs v (zeros P.length)) v) e):=by
   intro k
   induction k with
   |zero=>intro v _;simp[pw,iter,h.onel (hφ v),h.oner (hφ v)]
   |succ k ihk=>
    intro v hv;rw[zSW h hg,←h.assoc (hφ v) hg (tS h hg k),hσ v hv,h.assoc hg (hφ _) (tS h hg k),ihk _ (t9 v hv),←h.assoc hg (tS h hg k) (hφ _)];rfl
  have fQ:=tS h hg a.toNat;have bS:=tS h hg b.toNat;have ei:V P (iter b.toNat (fun v=>img (mul P) l.cs v (zeros P.length)) x):=vR t9 _ hx.2;have pL:m (img m (g::s) (a::x) e) (img m (g::s) (b::y) e)=m (pw m e g (a.toNat+b.toNat)) (img m s (mul P (iter b.toNat (fun v=>img (mul P) l.cs v (zeros P.length)) x) y) e):=by rw[qU h hg mq,qU h hg mq,h.assoc fQ (hφ x) (h.cl bS (hφ y)),←h.assoc (hφ x) bS (hφ y),hσk _ _ hx.2,h.assoc bS (hφ _) (hφ y),←ih _ _ ei hy.2,←h.assoc fQ bS (hφ _),zHP h hg]
  rw[pL];simp only[mul];split
  ·rename_i hge
   rw[qU h hg mq,ih _ _ hw (hmP ei hy.2),←fc,←h.assoc (tS h hg _) (tS h hg _) (hφ _),←zHP h hg]
   congr 2
   omega
  ·rw[qU h hg mq]
   congr 2
   omega
end
def xM(n j:Nat):Vec:=(zeros n).set j 1
def sig(P:Pcp)(l:Lvl)(v:Vec):Vec:=img (mul P) l.cs v (zeros P.length)
def wO:Pcp→Prop
 | []=>True
 |l::P=>wO P∧Rel (mul P) (zeros P.length) P l.cs∧sig P l l.w=l.w∧ ∀j,j<P.length→mul P l.w (iter l.o.toNat (sig P l) (xM P.length j))=mul P (xM P.length j) l.w
theorem zDr(n:Nat):xM (n+1) 0=1::zeros n:=rfl
theorem zFP(n j:Nat):xM (n+1) (j+1)=0::xM n j:=rfl
def wP(n:Nat):List Vec:=(Jg n).map (xM n)
theorem zNX(n:Nat):wP (n+1)=(1::zeros n)::(wP n).map (0::·):=by
 simp only[wP,Jaq,Jn,Jah,zDr]
 congr 1
theorem zCI:∀{P:Pcp},Ok P→ ∀{j:Nat},j<P.length→V P (xM P.length j)
 | [],_,_,hj=>by simp at hj
 |l::P,h,0,_=>by grind[Ok,zDr,V,wS]
 |l::P,h,j+1,hj=>by simp only[Ok]at h;rw[J7,zFP];simp only[V];exact⟨by omega,zCI h.2.2.2.2 (by grind)⟩
theorem zCJ{l:Lvl}{P:Pcp}(h:Ok (l::P)){v:Vec}(_hv:V P v):V P (sig P l v):=by simp only[Ok]at h;exact qY (xH h.2.2.2.2) l.cs v h.2.2.2.1 (wS h.2.2.2.2)
theorem yZ(l:Lvl)(P:Pcp)(a b:Int)(x y:Vec):mul (l::P) (a::x) (b::y)=if a+b≥l.o then(a+b-l.o)::mul P l.w (mul P (iter b.toNat (sig P l) x) y)else(a+b)::mul P (iter b.toNat (sig P l) x) y:=rfl
theorem zQO{n k:Nat}{c:Vec}(h:(wP n)[k]? =iG c):k<n∧c=xM n k:=by
 simp only[wP,K5,Ko]at h
 grind
theorem normal:∀(P:Pcp),Ok P→(∀Q,Q<:+P→Mon (V Q) (mul Q) (zeros Q.length))→ ∀x,V P x→img (mul P) (wP P.length) x (zeros P.length)=x
 | [],_,_,x,hx=>by grind[V,img,zeros]
 |l::P,_,_,[],hx=>by grind[V]
 |l::P,h,hM,a::x,hx=>by
  have hMl:=hM (l::P) (List.suffix_refl _);have hMP:=hM P (by simp);have h':=h;simp only[Ok]at h;simp only[V]at hx;rw[J7,zNX];have hz:V P (zeros P.length):=wS h.2.2.2.2;have hu0:V (l::P) (1::zeros P.length):=by grind[V]
  have fT:∀c∈(wP P.length).map (0::·),V (l::P) c:=by
   intro c hc;simp only[wP,Jah,Jl,Kn]at hc;obtain⟨j,hj,rfl⟩:=hc;simp only[Function.comp,V]
   grind[zCI]
  have pW:V (l::P) (zeros (P.length+1)):=by grind[wS]
  rw[show zeros (P.length+1)=zeros (l::P).length from rfl];rw[qU hMl hu0 fT];have sz:∀k:Nat,iter k (sig P l) (zeros P.length)=zeros P.length:=by
   intro k
   induction k with
   |zero=>rfl
   |succ k ih=>grind[iter,sig,qG]
  have h1:∀k:Nat,(k:Int)<l.o→pw (mul (l::P)) (zeros (l::P).length) (1::zeros P.length) k=(k:Int)::zeros P.length:=by
   intro k
   induction k with
   |zero=>intro _;rfl
   |succ k ih=>
    intro hk;rw[pw,vH];show mul (l::P) (pw (mul (l::P)) (zeros (l::P).length) (1::zeros P.length) k) (1::zeros P.length)=_;rw[ih (by omega),yZ,if_neg (by omega)];rw[sz,hMP.onel hz];rfl
  have h2:∀(cs:List Vec)(y acc:Vec),(∀c∈cs,V P c)→V P acc→img (mul (l::P)) (cs.map (0::·)) y (0::acc)=0::img (mul P) cs y acc:=by
   intro cs
   induction cs with
   |nil=>grind[img]
   |cons c cs ih=>
    intro y acc hc hacc;cases y with
    |nil=>simp[img]
    |cons z y=>
     have gS:V P c:=hc c (by simp);have it:∀(k:Nat)(acc:Vec),V P acc→iter k (fun v=>mul (l::P) v (0::c)) (0::acc)=0::iter k (fun v=>mul P v c) acc:=by
      intro k
      induction k with
      |zero=>intro _ _;rfl
      |succ k ihk=>
       intro acc hacc;simp only[iter];rw[yZ,if_neg (by omega)];exact ihk _ (xH h.2.2.2.2 hacc gS)
     simp only[Jn,img];rw[it _ _ hacc,ih _ _ (by grind) (vR (by grind[xH]) _ hacc)]
  have m6:∀c∈wP P.length,V P c:=by
   intro c hc;simp only[wP,Jl,Kn]at hc;obtain⟨j,hj,rfl⟩:=hc
   grind[zCI]
  rw[h1 a.toNat (by omega),show zeros (l::P).length=0::zeros P.length from rfl,h2 _ _ _ m6 hz,normal P h.2.2.2.2 (by grind) x hx.2,yZ,if_neg (by omega)];simp only[Gw,iter];rw[hMP.onel hx.2]
  grind
theorem zCK:∀(P:Pcp),Ok P→wO P→Grp (V P) (mul P) (zeros P.length)
 | [],_,_=>by
  refine⟨⟨fun _ _=>rfl,rfl,fun _ _ _=>rfl,?_,?_⟩,fun ha=>⟨[],rfl,rfl⟩⟩<;>
  ·intro a ha
   simp only[V]at ha;subst ha;rfl
 |l::P,h,hc=>by
  have h':=h;simp only[Ok]at h;simp only[wO]at hc;obtain⟨ho,hw,gC,gK,hP⟩:=h;obtain⟨iw,mT,aL,aI⟩:=hc;have N:=zCK P hP iw;have hM:∀Q,Q<:+P→Mon (V Q) (mul Q) (zeros Q.length):=by
   intro Q hQ;obtain⟨t,ht⟩:=hQ;have:Ok Q∧wO Q:=by
    clear N hw gC gK mT aL aI h'
    induction t generalizing P with
    |nil=>grind
    |cons a t ih=>
     simp at ht;subst ht;simp only[Ok]at hP;simp only[wO]at iw
     grind
   have gF:SizeOf.sizeOf Q≤SizeOf.sizeOf P:=by
    rw[←ht]
    clear N hw gC gK mT aL aI h' hP iw ht this
    induction t with
    |nil=>simp
    |cons a t ih=>grind
   exact(zCK Q this.1 this.2).toMon
  have hz:V P (zeros P.length):=wS hP;have σin:∀v,V P v→V P (sig P l v):=by grind[zCJ]
  have σhom:∀x y,V P x→V P y→sig P l (mul P x y)=mul P (sig P l x) (sig P l y):=fun x y hx hy=>yBv N.toMon P l.cs hP gK mT x y hx hy
  have σz:sig P l (zeros P.length)=zeros P.length:=qG _ _ _ _;have itin:∀(k:Nat) v,V P v→V P (iter k (sig P l) v):=fun k v hv=>vR σin k hv
  have ithom:∀(k:Nat) x y,V P x→V P y→iter k (sig P l) (mul P x y)=mul P (iter k (sig P l) x) (iter k (sig P l) y):=by
   intro k
   induction k with
   |zero=>intro _ _ _ _;rfl
   |succ k ih=>simp_all[iter]
  have itz:∀k:Nat,iter k (sig P l) (zeros P.length)=zeros P.length:=by
   intro k
   induction k with
   |zero=>rfl
   |succ k ih=>grind[iter]
  have itw:∀k:Nat,iter k (sig P l) l.w=l.w:=by
   intro k
   induction k with
   |zero=>rfl
   |succ k ih=>grind[iter]
  have m6:∀c∈wP P.length,V P c:=by
   intro c hc;simp only[wP,Jl,Kn]at hc;obtain⟨j,hj,rfl⟩:=hc
   grind[zCI]
  have inner:∀x,V P x→mul P x l.w=mul P l.w (iter l.o.toNat (sig P l) x):=by
   intro x hx;have hnf:=normal P hP hM x hx;have aC:=zPI N.toMon N.toMon (iter l.o.toNat (sig P l)) (by grind) (itz _) (by grind) (wP P.length) x m6;rw[←hnf,aC];refine zHQ N.toMon hw _ _ x m6 (by simp_all) (by simp) ?_;intro k c d hc hd;rw[K5,Ko]at hd;obtain⟨c',mj,rfl⟩:=hd;rw[hc]at mj;simp at mj;subst mj;obtain⟨hk,rfl⟩:=zQO hc
   grind
  have e:∀(x y z:Vec)(b c:Int),V P x→V P y→V P z→0≤b→0≤c→
    mul P (iter c.toNat (sig P l) (mul P (iter b.toNat (sig P l) x) y)) z=mul P (iter (b+c).toNat (sig P l) x) (mul P (iter c.toNat (sig P l) y) z)∧
    mul P (iter c.toNat (sig P l) (mul P l.w (mul P (iter b.toNat (sig P l) x) y))) z=mul P l.w (mul P (iter (b+c).toNat (sig P l) x) (mul P (iter c.toNat (sig P l) y) z))∧
    (l.o≤b+c→mul P (iter (b+c-l.o).toNat (sig P l) x) (mul P l.w (mul P (iter c.toNat (sig P l) y) z))=mul P l.w (mul P (iter (b+c).toNat (sig P l) x) (mul P (iter c.toNat (sig P l) y) z))):=by
   intro x y z b c hx hy hz hb iv;have iy:=itin b.toNat x hx;have hcy:=itin c.toNat y hy;have hbc:iter c.toNat (sig P l) (iter b.toNat (sig P l) x)=iter (b+c).toNat (sig P l) x:=by rw[←zEP];congr 1;omega
   have iA:=itin (b+c).toNat x hx;have e1:mul P (iter c.toNat (sig P l) (mul P (iter b.toNat (sig P l) x) y)) z=mul P (iter (b+c).toNat (sig P l) x) (mul P (iter c.toNat (sig P l) y) z):=by rw[ithom _ _ _ iy hy,hbc,N.assoc iA hcy hz]
   refine⟨e1,?_,?_⟩
   ·rw[ithom _ _ _ hw (N.cl iy hy),itw,N.assoc hw (itin _ _ (N.cl iy hy)) hz,e1]
   ·intro hge
    have aP:=N.cl hcy hz;rw[←N.assoc (itin _ x hx) hw aP,inner _ (itin _ x hx),←zEP,N.assoc hw (itin _ x hx) aP]
    congr 3
    omega
  refine⟨⟨by grind[xH],wS h',?_,?_,?_⟩,?_⟩
  ·intro A B C hA hB hC
   match A,B,C,hA,hB,hC with
   |a::x,b::y,c::z,hA,hB,hC=>
    simp only[V]at hA hB hC;obtain⟨e1,e2,e3⟩:=e x y z b c hA.2 hB.2 hC.2 hB.1.1 hC.1.1
    by_cases c1:a+b≥l.o<;>by_cases c2:b+c≥l.o
    ·rw[yZ,if_pos c1,yZ l P b c,if_pos c2,yZ,yZ,e2,e3 c2]
     grind
    ·rw[yZ,if_pos c1,yZ l P b c,if_neg c2,yZ,yZ,e2,if_neg (by omega),if_pos (by omega)]
     grind
    ·rw[yZ,if_neg c1,yZ l P b c,if_pos c2,yZ,yZ,e1,e3 c2,if_pos (by omega),if_neg (by omega)]
     grind
    ·rw[yZ,if_neg c1,yZ l P b c,if_neg c2,yZ,yZ,e1]
     grind
  ·intro A hA
   match A,hA with
   |a::x,hA=>
    simp only[V]at hA;show mul (l::P) (0::zeros P.length) (a::x)=_;rw[yZ,if_neg (by omega),itz,N.onel hA.2,Lh]
  ·intro A hA
   match A,hA with
   |a::x,hA=>
    simp only[V]at hA;show mul (l::P) (a::x) (0::zeros P.length)=_;rw[yZ,if_neg (by omega)];simp only[Gw,iter];rw[N.oner hA.2,H0]
  ·intro A hA
   match A,hA with
   |a::x,hA=>
    simp only[V]at hA
    by_cases ha:a=0
    ·obtain⟨y,hy,h1⟩:=N.inv hA.2
     refine⟨0::y,by simp only[V];grind,?_⟩;rw[yZ,if_neg (by omega)];simp only[Gw,iter];rw[h1,ha];rfl
    ·have te:=itin (l.o-a).toNat x hA.2
     obtain⟨y,hy,h1⟩:=N.inv (N.cl hw te);refine⟨(l.o-a)::y,by simp only[V];grind,?_⟩;rw[yZ,if_pos (by omega),←N.assoc hw te hy,h1,show a+(l.o-a)-l.o=0 by omega];rfl
termination_by P=>P
end Go.Pc

namespace Go.Pl
open Go Go.Ab
theorem bs{α β:Type}(x:α)(f:α→Option β):(iG x).bind f=f x:=by simp only[Option.bind_some]
theorem zK{α:Type}(x y:α):cond iI x y=x:=by simp only[cond_true]
theorem zM{α:Type}(x y:α):cond iJ x y=y:=by simp only[cond_false]
theorem zC{n:Int}(h1:-9223372036854775808≤n)(h2:n≤9223372036854775807):rng n=iG n:=by unfold rng;rw[if_pos];simp only[inR,J4,decide_eq_true_eq];omega
theorem vS{α:Type}(xs:List α)(i:Nat):ixO xs (i:Int)=xs[i]?:=by unfold ixO;rw[if_pos (by omega)];simp
theorem zAU{α:Type}{xs:List α}{i:Nat}(h:i<xs.length):ixO xs (i:Int)=iG xs[i]:=by rw[vS];exact J3 h
theorem xC{n:Nat}(h:n≤68719476736):xG (n:Int)=iG n:=by unfold xG;rw[if_pos (by omega)];simp
theorem yI{α:Type}{xs ys:List α}(h:xs.length+ys.length≤68719476736):xT xs ys=iG (xs++ys):=by unfold xT;rw[if_pos h]
theorem zX{σ ρ:Type}{body:σ→Option (σ⊕ρ)}{r:ρ}(S:Nat→σ)(n:Nat)(h:∀i,i<n→body (S i)=iG (.inl (S (i+1))))(he:body (S n)=iG (.inr r)):zI body (S 0)=iG r:=by
 have key:∀k i,i+k=n→zI body (S i)=iG r:=by
  intro k
  induction k with
  |zero=>intro i hi;rw[xK,show i=n from by omega,he]
  |succ k ih=>intro i hi;rw[xK,h i (by omega)];exact ih (i+1) (by omega)
 exact key n 0 (by omega)
theorem uP{σ ρ:Type}{body:σ→Option (σ⊕ρ)}{Q:ρ→Prop}(I:Nat→σ→Prop)(n:Nat)(h:∀i s,i<n→I i s→(∃s',body s=iG (.inl s')∧I (i+1) s')∨ ∃r,body s=iG (.inr r)∧Q r)
  (he:∀s,I n s→ ∃r,body s=iG (.inr r)∧Q r){s:σ}(h0:I 0 s):∃r,zI body s=iG r∧Q r:=by
 have key:∀k i s,i+k=n→I i s→ ∃r,zI body s=iG r∧Q r:=by
  intro k
  induction k with
  |zero=>
   intro i s hi hs;obtain rfl:i=n:=by omega
   obtain⟨r,h1,h2⟩:=he s hs;exact⟨r,by rw[xK,h1],h2⟩
  |succ k ih=>
   intro i s hi hs;rcases h i s (by omega) hs with⟨s',h1,h2⟩|⟨r,h1,h2⟩
   ·rw[xK,h1];exact ih (i+1) s' (by omega) h2
   ·exact⟨r,by rw[xK,h1],h2⟩
 exact key n 0 s (by omega) h0
def zMf{ρ:Type}:Option ρ→Unit⊕ρ
 |none=>.inl ()
 |some r=>.inr r
theorem cs(i:Nat):(i:Int)+1=((i+1:Nat):Int):=by omega
theorem zJ8{ρ:Type}{body:Int→Option (Int⊕(Unit⊕ρ))}(n:Nat)(t:Nat→Option ρ)(i0:Nat)(hn:i0≤n)
  (h:∀i,i0≤i→i<n→(∀j,i0≤j→j<i→t j=iH)→body (i:Int)=iG (match t i with|none=>.inl ((i+1:Nat):Int)|some r=>.inr (.inr r)))
  (he:(∀j,i0≤j→j<n→t j=iH)→body (n:Int)=iG (.inr (.inl ()))):
  zI body (i0:Int)=iG (zMf ((Kx i0 (n-i0)).findSome? t)):=by
 have key:∀k i,i0≤i→i+k=n→(∀j,i0≤j→j<i→t j=iH)→zI body (i:Int)=iG (zMf ((Kx i k).findSome? t)):=by
  intro k
  induction k with
  |zero=>
   intro i hi hk hp;obtain rfl:i=n:=by omega
   rw[xK,he hp];rfl
  |succ k ih=>
   intro i hi hk hp;rw[xK,h i hi (by omega) hp,Jcw,Jbf];cases ht:t i with
   |some r=>rfl
   |none=>
    simp only
    exact ih (i+1) (by omega) (by omega) fun j h1 h2=>by
     rcases Jj j i with h3|h3
     ·exact hp j h1 h3
     ·rw[show j=i from by omega];exact ht
 exact key (n-i0) i0 (Jh _) (by omega) fun j h1 h2=>by omega
theorem zSX{n:Nat}{b:Nat→Bool}:zMf ((Kx 0 n).findSome? (fun i=>if b i then iH else iG iJ))=if(Jg n).all b then .inl ()else .inr iJ:=by
 have key:∀l:List Nat,zMf (l.findSome? (fun i=>if b i then iH else iG iJ))=if l.all b then .inl ()else .inr iJ:=by
  intro l
  induction l with
  |nil=>rfl
  |cons x l ih=>
   rw[Jbf,Q7];cases hb:b x
   ·rfl
   ·simpa using ih
 rw[key,Lm]
theorem zJ9{body:Int→Option (Int⊕(Unit⊕Bool))}(n:Nat)(b:Nat→Bool)
  (h:∀i,i<n→(∀j,j<i→b j=iI)→body (i:Int)=iG (if b i then .inl ((i+1:Nat):Int)else .inr (.inr iJ)))
  (he:(∀j,j<n→b j=iI)→body (n:Int)=iG (.inr (.inl ()))):
  zI body 0=iG (if(Jg n).all b then .inl ()else .inr iJ):=by
 have:=zJ8 (body:=body) n (fun i=>if b i then iH else iG iJ) 0 (Kg _) (fun i _ hi hp=>by
  rw[h i hi fun j hj=>by
   have:=hp j (Kg _) hj;split at this
   ·assumption
   ·cases this]
  cases b i<;>rfl) (fun hp=>he fun j hj=>by
   have:=hp j (Kg _) hj;split at this
   ·assumption
   ·cases this)
 rw[Ui]at this;exact this.trans (congrArg iG (zSX (n:=n) (b:=b)))
theorem zSY{α:Type}{xs:List α}{z:α}{i:Nat}(h:i<xs.length):(xs.take i++J1 (xs.length-i) z).set i xs[i]=xs.take (i+1)++J1 (xs.length-(i+1)) z:=by
 have h1:(xs.take i).length=i:=by rw[Kc];omega
 rw[Uj _ _ (by omega),h1,Kj,show xs.length-i=(xs.length-(i+1))+1 from by omega,Ju,H5,Jz h];simp only[Jf,H4]
theorem zK5{α:Type}{f:α→Option α}{body:List α×Int→Option ((List α×Int)⊕List α)}{x0:List α}{z:α}
  (hb:∀s,body s=cond (decide (s.2<(x0.length:Int))) ((ixO x0 s.2).bind fun v2=>(f v2).bind fun r3=>(ixO s.1 s.2).bind fun _=>(rng (s.2+1)).bind fun v5=>iG (.inl (s.1.set s.2.toNat r3,v5))) (iG (.inr s.1)))
  (hl:x0.length≤68719476736)(hf:∀x∈x0,f x=iG x):zI body (J1 x0.length z,0)=iG x0:=by
 have:=zX (body:=body) (r:=x0) (fun i=>(x0.take i++J1 (x0.length-i) z,(i:Int))) x0.length (fun i hi=>by
  rw[hb];simp only[iM (show((i:Int))<(x0.length:Int)from by omega),zK];rw[zAU hi,vS];simp only[bs,hf _ (K8 hi)];rw[J3 (by simp;omega),bs,zC (by omega) (by omega),bs];simp only[J8,zSY hi,cs]) (by
  rw[hb];simp only[iL (show¬((x0.length:Int))<(x0.length:Int)from by omega),zM,Ja1,Kj,H2,Je])
 simpa using this
theorem zWl{α:Type}[BEq α]{t:α→α→Option Bool}{body:Int→Option (Int⊕(Unit⊕Bool))}{x y:List α}
  (hb:∀i,body i=cond (decide (i<(x.length:Int))) ((ixO x i).bind fun v1=>(ixO y i).bind fun v2=>(t v1 v2).bind fun r3=>cond (!r3) (iG (.inr (.inr iJ))) ((rng (i+1)).bind fun v4=>iG (.inl v4))) (iG (.inr (.inl ()))))
  (hl:x.length≤68719476736)(tc:x.length=y.length)(ht:∀u∈x,∀v∈y,t u v=iG (u==v)):zI body 0=iG (if x==y then .inl ()else .inr iJ):=by
 have h:=zJ9 (body:=body) x.length (fun i=>match x[i]?,y[i]? with|some u,iG v=>u==v|_,_=>iI) (fun i hi _=>by
  have eI:i<y.length:=by omega
  rw[hb];simp only[iM (show((i:Int))<(x.length:Int)from by omega),zK];rw[zAU hi,zAU eI];simp only[bs,ht _ (K8 hi) _ (K8 eI),J3 hi,J3 eI];cases x[i]==y[i]
  ·rfl
  ·simp only[Jo,zM,if_true]
   rw[zC (by omega) (by omega),cs];rfl) (fun _=>by
  rw[hb];simp only[iL (show¬((x.length:Int))<(x.length:Int)from by omega),zM])
 rw[h]
 congr 2
 have key:∀(x y:List α),x.length=y.length→((Jg x.length).all (fun i=>match x[i]?,y[i]? with|some u,iG v=>u==v|_,_=>iI))=(x==y):=by
  intro x
  induction x with
  |nil=>intro y hy;cases y with|nil=>rfl|cons _ _=>simp at hy
  |cons u x ih=>
   intro y hy;cases y with
   |nil=>simp at hy
   |cons v y=>
    rw[J7,Jaq,Q7,List.all_map];simp only[Qr,Function.comp_def,Q6];rw[ih y (by simpa using hy)];rfl
 rw[key x y tc]
theorem zJA{α:Type}[BEq α]{t:α→α→Option Bool}{f:Option Bool}{body:Int→Option (Int⊕(Unit⊕Bool))}{x y:List α}
  (hf:f=cond ((x.length:Int) != (y.length:Int)) (iG iJ) ((zI body 0).bind fun r=>match r with|.inl _=>iG iI|.inr r=>iG r))
  (hb:∀i,body i=cond (decide (i<(x.length:Int))) ((ixO x i).bind fun v1=>(ixO y i).bind fun v2=>(t v1 v2).bind fun r3=>cond (!r3) (iG (.inr (.inr iJ))) ((rng (i+1)).bind fun v4=>iG (.inl v4))) (iG (.inr (.inl ()))))
  (hl:x.length≤68719476736)(ht:∀u∈x,∀v∈y,t u v=iG (u==v)):f=iG (x==y):=by
 rw[hf]
 by_cases tc:x.length=y.length
 ·rw[zWl hb hl tc ht]
  have:((x.length:Int) != (y.length:Int))=iJ:=by simp[tc]
  rw[this];cases x==y<;>rfl
 ·have:((x.length:Int) != (y.length:Int))=iI:=by simp;omega
  rw[this];have h2:(x==y)=iJ:=by
   have key:∀(x y:List α),x.length≠y.length→(x==y)=iJ:=by
    intro x
    induction x with
    |nil=>intro y hy;cases y with|nil=>simp at hy|cons _ _=>rfl
    |cons u x ih=>
     intro y hy;cases y with
     |nil=>rfl
     |cons v y=>
      show(u==v&&x==y)=iJ;rw[ih y (by simpa using hy),Bool.and_false]
   exact key x y tc
  rw[h2];rfl
end Go.Pl

namespace Go.Pl
open Go Go.Ab
def sm{α:Type}(c:α→Nat):List α→Nat
 | []=>0
 |x::xs=>c x+sm c xs
theorem zFQ{α:Type}(c:α→Nat):∀xs ys:List α,sm c (xs++ys)=sm c xs+sm c ys
 | [],ys=>by simp[sm]
 |x::xs,ys=>by simp only[K6,sm,zFQ c xs ys];omega
theorem zPJ{α:Type}(c:α→Nat){xs:List α}{i:Nat}(h:i<xs.length):sm c (xs.take (i+1))=sm c (xs.take i)+c xs[i]:=by rw[Jz h,zFQ];simp[sm]
theorem zHR{α:Type}(c:α→Nat)(xs:List α)(i:Nat):sm c (xs.take i)≤sm c xs:=by have:=zFQ c (xs.take i) (xs.drop i);rw[Jay]at this;omega
theorem zSZ{α:Type}(c:α→Nat){xs:List α}{x:α}(h:x∈xs):c x≤sm c xs:=by obtain⟨i,hi,rfl⟩:=Ke.1 h;have:=zPJ c hi;have:=zHR c xs (i+1);omega
def szR(c:Nat)(b:Int):Int:=if(c:Int)≤b then b-c else -1
theorem zXN{α:Type}{c:α→Nat}{t:α→Int→Option Int}{f:Option Int}{body:Int×Int→Option ((Int×Int)⊕(Int⊕Int))}{xs:List α}{b:Int}
  (hf:f=(rng (b-(xs.length:Int))).bind fun v1=>cond (decide (v1<0)) (iG (-1)) ((zI body (v1,0)).bind fun r=>match r with|.inl r=>iG r|.inr r=>iG r))
  (hb:∀s,body s=cond (decide (s.2<(xs.length:Int))) ((ixO xs s.2).bind fun v2=>(t v2 s.1).bind fun r3=>cond (decide (r3<0)) (iG (.inr (.inr (-1)))) ((rng (s.2+1)).bind fun v4=>iG (.inl (r3,v4)))) (iG (.inr (.inl s.1))))
  (hl:xs.length≤9223372036854775807)(b0:0≤b)(b1:b≤1048576)(ht:∀x∈xs,∀b',0≤b'→b'≤1048576→t x b'=iG (szR (c x) b')):f=iG (szR (xs.length+sm c xs) b):=by
 rw[hf,zC (by omega) (by omega),bs]
 by_cases h0:b-(xs.length:Int)<0
 ·rw[iM h0,zK,szR,if_neg (by omega)]
 ·rw[iL h0,zM]
  obtain⟨r,h1,h2⟩:=uP (body:=body) (Q:=fun r=>(match r with|.inl r=>iG r|.inr r=>iG r)=iG (szR (xs.length+sm c xs) b)) (fun i s=>s.2=(i:Int)∧0≤s.1∧s.1=b-xs.length-sm c (xs.take i)) xs.length (fun i s hi ⟨e1,e2,e3⟩=>by
   rw[hb,e1,iM (by omega),zK,zAU hi,bs,ht _ (K8 hi) _ e2 (by omega),bs];have h3:=zPJ c hi;have h4:=zHR c xs (i+1);unfold szR
   by_cases h5:(c xs[i]:Int)≤s.1
   ·rw[if_pos h5,iL (by omega),zM,zC (by omega) (by omega),bs,cs]
    exact .inl ⟨_,rfl,rfl,by simp only;omega,by simp only;omega⟩
   ·rw[if_neg h5]
    refine .inr ⟨.inr (-1),rfl,?_⟩;simp only
    rw[if_neg (by omega)]) (fun s ⟨e1,e2,e3⟩=>by
   rw[hb,e1,iL (by omega),zM];rw[Ja1]at e3;refine⟨_,rfl,?_⟩;simp only
   rw[szR,if_pos (by omega),e3]
   congr 1;omega) (s:=(b-(xs.length:Int),0)) ⟨rfl,by simp only;omega,by simp[sm]⟩
  rw[h1,bs,h2]
end Go.Pl

namespace Go.Pl
open Go Go.Ab Go.Wk
abbrev VI(n:Int):Prop:=(Lit.int .i64 n).wf=iI
abbrev VL{α:Type}(V:α→Prop)(xs:List α):Prop:=xs.length≤maxLen∧ ∀x∈xs,V x
abbrev c1(x:List Int):Nat:=x.length
abbrev c2(x:List (List Int)):Nat:=x.length+sm c1 x
abbrev c3(x:List (List (List Int))):Nat:=x.length+sm c2 x
theorem zMg{x:List Int}{b:Int}(hl:x.length≤9223372036854775807)(b0:0≤b)(b1:b≤1048576):zUg x b=iG (szR (c1 x) b):=by
 unfold zUg szR;rw[zC (by omega) (by omega),bs]
 grind
theorem zFR{x:List (List Int)}{b:Int}(h:VL (VL VI) x)(b0:0≤b)(b1:b≤1048576):zUh x b=iG (szR (c2 x) b):=
 zXN (c:=c1) rfl (fun _=>rfl) h.1 b0 b1 fun y hy _ h1 h2=>zMg (h.2 y hy).1 h1 h2
theorem zHS{x:List (List (List Int))}{b:Int}(h:VL (VL (VL VI)) x)(b0:0≤b)(b1:b≤1048576):zWI x b=iG (szR (c3 x) b):=
 zXN (c:=c2) rfl (fun _=>rfl) h.1 b0 b1 (by grind[zFR])
abbrev S1(x:List Int):Prop:=c1 x≤1048576
abbrev S2(x:List (List Int)):Prop:=c2 x≤1048576
abbrev S3(x:List (List (List Int))):Prop:=c3 x≤1048576
theorem S2.mem{x:List (List Int)}(h:S2 x){y:List Int}(hy:y∈x):S1 y:=by
 have:=zSZ c1 hy
 grind
theorem S3.mem{x:List (List (List Int))}(h:S3 x){y:List (List Int)}(hy:y∈x):S2 y:=by
 have:=zSZ c2 hy
 grind
theorem S2.len{x:List (List Int)}(h:S2 x):x.length≤1048576:=by grind
theorem S3.len{x:List (List (List Int))}(h:S3 x):x.length≤1048576:=by grind
theorem zMh{x:List Int}(h:S1 x):zRx x=iG x:=by unfold zRx;rw[xC (Hb h (by decide)),bs,zK5 (body:=zUi x) (f:=iG) (fun _=>rfl) (by grind) (fun _ _=>rfl),bs]
theorem zFS{x:List (List Int)}(h:S2 x):f_Z x=iG x:=by unfold f_Z;rw[xC (by grind),bs,zK5 (body:=zZG x) (f:=zRx) (fun _=>rfl) (by grind) (fun _ hx=>zMh (h.mem hx)),bs]
theorem zHT{x:List (List (List Int))}(h:S3 x):zUk x=iG x:=by unfold zUk;rw[xC (by grind),bs,zK5 (body:=zUj x) (f:=f_Z) (fun _=>rfl) (by grind) (fun _ hx=>zFS (h.mem hx)),bs]
theorem zMi{x y:List Int}(h:S1 x):zVh x y=iG (x==y):=
 zJA (t:=fun u v=>iG (u==v)) (body:=zVg x y) rfl (fun _=>rfl) (by grind) fun _ _ _ _=>rfl
theorem zFT{x y:List (List Int)}(h:S2 x):zR3 x y=iG (x==y):=
 zJA (t:=zVh) (body:=zVi x y) rfl (fun _=>rfl) (by grind) fun _ hu _ _=>zMi (h.mem hu)
theorem zHU{x y:List (List (List Int))}(h:S3 x):zWV x y=iG (x==y):=
 zJA (t:=zR3) (body:=zVj x y) rfl (fun _=>rfl) (by grind) fun _ hu _ _=>zFT (h.mem hu)
def zPK(x:SPr):Prop:=VL VI x.zA∧VL (VL VI) x.zS∧VL (VL (VL VI)) x.zG
def zWm(x:zB):Prop:=VI x.Prime∧VI x.Dim∧VL (VL (VL VI)) x.zF
def zMj(x:SPr):Nat:=c1 x.zA+c2 x.zS+c3 x.zG
def zWn(x:zB):Nat:=c3 x.zF
def zES(x:SPr):Prop:=S1 x.zA∧S2 x.zS∧S3 x.zG
def zK6(x:zB):Prop:=S3 x.zF
theorem zMk{a b:Nat}{n:Int}:(szR a n<0∧szR (a+b) n= -1)∨(0≤szR a n∧szR a n≤n∧szR b (szR a n)=szR (a+b) n∧(a:Int)≤n)∨n<0:=by unfold szR;omega
theorem zHV{x:SPr}{b:Int}(h:zPK x)(b0:0≤b)(b1:b≤1048576):zWJ x b=iG (szR (zMj x) b):=by
 obtain⟨h1,h2,h3⟩:=h;unfold zWJ zMj;rw[zMg h1.1 b0 b1,bs];rcases zMk (a:=c1 x.zA) (b:=c2 x.zS+c3 x.zG) (n:=b)with⟨g1,g2⟩|⟨g1,g2,g3,g4⟩|g1
 ·grind
 ·rw[iL (by omega),zM,zFR h2 g1 (by omega),bs,Nat.add_assoc,←g3]
  generalize szR (c1 x.zA) b=b' at g1 g2
  rcases zMk (a:=c2 x.zS) (b:=c3 x.zG) (n:=b')with⟨k1,k2⟩|⟨k1,k2,k3,k4⟩|k1
  ·grind
  ·rw[iL (by omega),zM,zHS h3 k1 (by omega),bs,←k3]
   generalize szR (c2 x.zS) b'=b'' at k1 k2
   unfold szR
   grind
  ·omega
 ·omega
theorem zTa{x:zB}{b:Int}(h:zWm x)(b0:0≤b)(b1:b≤1048576):zWK x b=iG (szR (zWn x) b):=by
 obtain⟨_,_,h3⟩:=h;unfold zWK zWn;rw[zHS h3 b0 b1,bs];unfold szR
 grind
theorem zK7{c:Nat}{b:Int}(b0:0≤b)(b1:b≤1048576):(decide (szR c b<0)=iI)∨(decide (szR c b<0)=iJ∧0≤szR c b∧szR c b≤1048576∧c≤1048576):=by
 unfold szR
 grind
theorem zES.of{x:SPr}(h:zMj x≤1048576):zES x:=by unfold zMj at h;exact⟨by omega,by omega,by omega⟩
theorem zK6.of{x:zB}(h:zWn x≤1048576):zK6 x:=h
theorem zHW{x:SPr}(h:zES x):zRy x=iG x:=by unfold zRy;rw[zMh h.1,bs,zFS h.2.1,bs,zHT h.2.2,bs]
theorem zTb{x:zB}(h:zK6 x):zRz x=iG x:=by unfold zRz;rw[zHT h,bs]
theorem zTc{x:zB}(h:zK6 x):zWW x x=iG iI:=by unfold zWW;rw[zHU h,bs];simp
theorem zHX{x:SPr}(h:zES x):zWX x x=iG iI:=by unfold zWX;rw[zMi h.1,bs,zFT h.2.1,bs,zHU h.2.2,bs];simp
end Go.Pl

namespace Go.Pl
open Go Go.Ab Go.Wk
def IsB(o:Option Bool)(P:Prop):Prop:=(o=iG iI∧P)∨(o=iG iJ∧ ¬P)
theorem IsB.iff{o:Option Bool}{P Q:Prop}(h:IsB o P)(hpq:P↔Q):IsB o Q:=by grind
theorem IsB.of_bool{b:Bool}{P:Prop}(h:b=iI↔P):IsB (iG b) P:=by
 cases b
 ·exact .inr (by grind)
 ·exact .inl ⟨rfl,h.1 rfl⟩
theorem chk{ρ:Type}{body:Int→Option (Int⊕(Unit⊕ρ))}(n i0:Nat)(hn:i0≤n)(P:Nat→Prop)(bad:Nat→ρ)
  (h:∀i,i0≤i→i<n→(∀j,i0≤j→j<i→P j)→(body (i:Int)=iG (.inl ((i+1:Nat):Int))∧P i)∨(body (i:Int)=iG (.inr (.inr (bad i)))∧ ¬P i))
  (he:body (n:Int)=iG (.inr (.inl ()))):
  (zI body (i0:Int)=iG (.inl ())∧ ∀j,i0≤j→j<n→P j)∨ ∃i,i0≤i∧i<n∧zI body (i0:Int)=iG (.inr (bad i))∧ ¬P i:=by
 have key:∀k i,i0≤i→i+k=n→(∀j,i0≤j→j<i→P j)→(zI body (i:Int)=iG (.inl ())∧ ∀j,i0≤j→j<n→P j)∨ ∃q,i0≤q∧q<n∧zI body (i:Int)=iG (.inr (bad q))∧ ¬P q:=by
  intro k
  induction k with
  |zero=>
   intro i hi hk hp;obtain rfl:i=n:=by omega
   grind[xK]
  |succ k ih=>
   intro i hi hk hp;rcases h i hi (by omega) hp with⟨h1,h2⟩|⟨h1,h2⟩
   ·have:=ih (i+1) (by omega) (by omega) (by grind)
    rw[xK,h1];exact this
   grind[xK]
 exact key (n-i0) i0 (Jh _) (by omega) fun j a b=>by omega
theorem sW{f:Option Bool}{body:Int→Option (Int⊕(Unit⊕Bool))}(n:Nat)(P:Nat→Prop)
  (hf:f=(zI body 0).bind fun r=>match r with|.inl _=>iG iI|.inr r=>iG r)
  (h:∀i,i<n→(∀j,j<i→P j)→(body (i:Int)=iG (.inl ((i+1:Nat):Int))∧P i)∨(body (i:Int)=iG (.inr (.inr iJ))∧ ¬P i))
  (he:body (n:Int)=iG (.inr (.inl ()))):IsB f (∀i,i<n→P i):=by
 rcases chk n 0 (Kg _) P (fun _=>iJ) (fun i _ hi hp=>h i hi fun j hj=>hp j (Kg _) hj) he with⟨h1,h2⟩|⟨i,_,hi,h1,h2⟩
 ·refine .inl ⟨?_,fun i hi=>h2 i (Kg _) hi⟩
  rw[hf];rw[show((0:Nat):Int)=0 from rfl]at h1;rw[h1,bs]
 ·refine .inr ⟨?_,fun hp=>h2 (hp i hi)⟩
  rw[hf];rw[show((0:Nat):Int)=0 from rfl]at h1;rw[h1,bs]
theorem uZ{o:Option Bool}{P:Prop}{ρ:Type}{bad:ρ}{i:Nat}{g:Option (Int⊕(Unit⊕ρ))}(h:IsB o P)(hi:i<9223372036854775807)
  (hg:g=o.bind fun r=>cond (!r) (iG (.inr (.inr bad))) ((rng ((i:Int)+1)).bind fun v=>iG (.inl v))):(g=iG (.inl ((i+1:Nat):Int))∧P)∨(g=iG (.inr (.inr bad))∧ ¬P):=by
 subst hg;rcases h with⟨h1,h2⟩|⟨h1,h2⟩
 ·refine .inl ⟨?_,h2⟩
  rw[h1,bs,Jo,zM,zC (by omega) (by omega),bs,cs]
 grind
theorem yR{i n:Nat}(h:i<n):decide ((i:Int)<(n:Int))=iI:=by grind
theorem vE{n:Nat}:decide ((n:Int)<(n:Int))=iJ:=by simp
theorem zAa(x a b:Int):IsB (zOL x a b) (a≤x∧x≤b):=by
 unfold zOL
 by_cases h:x≥a
 ·rw[iM h,zK];grind[IsB.of_bool]
 ·rw[iL h,zM];exact .inr ⟨rfl,by omega⟩
theorem zCL(x a b:Int):IsB (zUl x a b) (a≤x∧x≤b):=zAa x a b
def Prime(p:Int):Prop:=p=2∨p=3∨p=5∨p=7
theorem zBT(x:Int):IsB (zR0 x) (Prime x):=by
 unfold zR0 Prime
 by_cases h2:x=2
 ·subst h2;exact .inl ⟨rfl,.inl rfl⟩
 ·rw[show(x==2)=iJ from by grind,zM]
  by_cases h3:x=3
  ·subst h3;exact .inl (by simp)
  ·rw[show(x==3)=iJ from by grind,zM]
   by_cases h5:x=5
   ·subst h5;exact .inl (by simp)
   ·rw[show(x==5)=iJ from by grind,zM]
    grind[IsB.of_bool]
theorem zHY(x:Int):IsB (zWL x) (Prime x):=zBT x
abbrev at0(v:List Int)(i:Nat):Int:=v.getD i 0
theorem yN{v:List Int}{i:Nat}(h:i<v.length):ixO v (i:Int)=iG (at0 v i):=by rw[zAU h,at0,J2,J3 h];rfl
def zZb(os v:List Int):Prop:=v.length=os.length∧ ∀i,i<v.length→0≤at0 v i∧at0 v i≤at0 os i-1
def Exp(os v:List Int)(k:Nat):Prop:=zZb os v∧ ∀i,i≤k→at0 v i=0
def Os(os:List Int):Prop:=os.length≤9∧ ∀i,i<os.length→Prime (at0 os i)
theorem Prime.pos{p:Int}(h:Prime p):2≤p∧p≤7:=by unfold Prime at h;omega
theorem zFU{x:SPr}{v:List Int}(ho:Os x.zA):IsB (zWR x v) (zZb x.zA v):=by
 unfold zWR
 by_cases h:v.length=x.zA.length
 ·rw[show((v.length:Int) != (x.zA.length:Int))=iJ from by simp[h],zM]
  have h6:=ho.1;refine(sW v.length (fun i=>0≤at0 v i∧at0 v i≤at0 x.zA i-1) rfl (fun i hi _=>?_) ?_).iff ⟨fun g=>⟨h,g⟩,fun g=>g.2⟩
  ·have hp:=(ho.2 i (by omega)).pos
   refine uZ (zAa _ _ _) (by omega) ?_;unfold zQ2;rw[yR hi,zK,yN hi,bs,yN (by omega),bs,zC (by omega) (by omega),bs]
  ·unfold zQ2
   simp
 ·rw[show((v.length:Int) != (x.zA.length:Int))=iI from by simp;omega,zK]
  exact .inr ⟨rfl,fun g=>h g.1⟩
theorem zMl{v:List Int}(hl:v.length≤9):IsB (f_T v) (∀i,i<v.length→at0 v i=0):=by
 refine sW v.length (fun i=>at0 v i=0) rfl (fun i hi _=>?_) ?_
 ·refine uZ (o:=iG (at0 v i==0)) (IsB.of_bool (by simp)) (by omega) ?_
  unfold zNh;rw[yR hi,zK,yN hi,bs,bs];rfl
 ·unfold zNh
  simp
theorem zCs{x:SPr}{k:Nat}{v:List Int}(ho:Os x.zA)(hk:k<x.zA.length):IsB (zU8 x k v) (Exp x.zA v k):=by
 have h6:=ho.1;unfold zU8;rcases zFU (v:=v) ho with⟨h1,h2⟩|⟨h1,h2⟩
 ·have hl:=h2.1
  rw[h1,bs,zK,zC (by omega) (by omega),bs];have hs:yD v 0 ((k:Int)+1)=iG (v.take (k+1)):=by
   unfold yD
   grind
  rw[hs,bs];have hb:=zMl (v:=v.take (k+1)) (by grind);have cx:(∀i,i<(v.take (k+1)).length→at0 (v.take (k+1)) i=0)↔Exp x.zA v k:=by
   have e:∀i,i≤k→at0 (v.take (k+1)) i=at0 v i:=by grind
   rw[Kc,Ja0 (by omega)];exact⟨fun g=>⟨h2,by grind⟩,fun g i hi=>by rw[e i (by omega)];exact g.2 i (by omega)⟩
  grind
 ·rw[h1,bs,zM]
  exact .inr ⟨rfl,fun g=>h2 g.1⟩
theorem zCM{os v:List Int}{k:Nat}(ho:Os os)(hk:k<os.length):IsB (zUm os v k) (Exp os v k):=by
 have h6:=ho.1;unfold zUm
 by_cases h:v.length=os.length
 ·rw[show((v.length:Int) != (os.length:Int))=iJ from by simp[h],zM]
  refine(sW v.length (fun i=>(0≤at0 v i∧at0 v i≤at0 os i-1)∧(i≤k→at0 v i=0)) rfl (fun i hi _=>?_) ?_).iff ⟨fun g=>⟨⟨h,by grind⟩,by grind⟩,fun g i hi=>⟨g.1.2 i hi,fun hk=>g.2 i hk⟩⟩
  ·have hp:=(ho.2 i (by omega)).pos
   unfold zQy;rw[yR hi,zK,yN hi,bs,yN (by omega),bs,zC (by omega) (by omega),bs];rcases zCL (at0 v i) 0 (at0 os i-1)with⟨h1,h2⟩|⟨h1,h2⟩
   ·rw[h1,bs,Jo,zM]
    by_cases h3:(i:Int)≤(k:Int)
    ·rw[iM h3,zK,bs]
     by_cases h4:at0 v i=0
     ·rw[show(at0 v i != 0)=iJ from by grind,zM,zC (by omega) (by omega),bs,cs]
      grind
     grind
    ·rw[iL h3,zM,zC (by omega) (by omega),bs,cs]
     grind
   grind
  ·unfold zQy
   simp
 ·rw[show((v.length:Int) != (os.length:Int))=iI from by simp;omega,zK]
  exact .inr ⟨rfl,fun g=>h g.1.1⟩
end Go.Pl

namespace Go.Pl
open Go Go.Ab Go.Wk
theorem yC3{σ ρ:Type}{body:σ→Option (σ⊕(Unit⊕ρ))}(S:Nat→σ)(n i0:Nat)(hn:i0≤n)(P:Nat→Prop)(bad:Nat→ρ)
  (h:∀i,i0≤i→i<n→(∀j,i0≤j→j<i→P j)→(body (S i)=iG (.inl (S (i+1)))∧P i)∨(body (S i)=iG (.inr (.inr (bad i)))∧ ¬P i))
  (he:body (S n)=iG (.inr (.inl ()))):
  (zI body (S i0)=iG (.inl ())∧ ∀j,i0≤j→j<n→P j)∨ ∃i,i0≤i∧i<n∧zI body (S i0)=iG (.inr (bad i))∧ ¬P i:=by
 have key:∀k i,i0≤i→i+k=n→(∀j,i0≤j→j<i→P j)→(zI body (S i)=iG (.inl ())∧ ∀j,i0≤j→j<n→P j)∨ ∃q,i0≤q∧q<n∧zI body (S i)=iG (.inr (bad q))∧ ¬P q:=by
  intro k
  induction k with
  |zero=>
   intro i hi hk hp;obtain rfl:i=n:=by omega
   grind[xK]
  |succ k ih=>
   intro i hi hk hp;rcases h i hi (by omega) hp with⟨h1,h2⟩|⟨h1,h2⟩
   ·have:=ih (i+1) (by omega) (by omega) (by grind)
    rw[xK,h1];exact this
   grind[xK]
 exact key (n-i0) i0 (Jh _) (by omega) fun j a b=>by omega
theorem jO{a b:Int}(h:a=b):(a != b)=iJ:=by simp[h]
theorem jP{a b:Int}(h:a≠b):(a != b)=iI:=by simp[h]
def pr(os:List Int):Nat→Int
 |0=>1
 |i+1=>pr os i*at0 os i
def cp(os:List Int):Nat→Int
 |0=>1
 |i+1=>if cp os i≤729 then cp os i*at0 os i else cp os i
theorem zFV{os:List Int}:∀{i:Nat},(∀j,j<i→Prime (at0 os j))→1≤pr os i
 |0,_=>by simp[pr]
 |i+1,h=>by have h1:=zFV (os:=os) (i:=i) (by grind);have h2:=(h i (by omega)).pos;simp only[pr];have:(1:Int)*1≤pr os i*at0 os i:=Lq h1 (by omega) (by omega) (by omega);omega
theorem zPL{os:List Int}{i:Nat}(h:∀j,j≤i→Prime (at0 os j)):pr os i≤pr os (i+1):=by have h1:=zFV (os:=os) (i:=i) (by grind);have h2:=(h i (Jh _)).pos;simp only[pr];have:pr os i*1≤pr os i*at0 os i:=H7 (by omega) (by omega);omega
theorem zK8{os:List Int}{n:Nat}(h:∀j,j<n→Prime (at0 os j)):∀k,k≤n→pr os (n-k)≤pr os n
 |0,_=>Int.le_refl _
 |k+1,hk=>by
  have h1:=zK8 h k (by omega);have h2:=zPL (os:=os) (i:=n-(k+1)) (by grind)
  grind
theorem zTd{os:List Int}:∀{i:Nat},(∀j,j<i→Prime (at0 os j))→(cp os i=pr os i∧pr os i≤729∨729<cp os i∧cp os i≤5103∧729<pr os i)
 |0,_=>by simp[cp,pr]
 |i+1,h=>by
  have h0:∀j,j<i→Prime (at0 os j):=by grind
  have h2:=(h i (by omega)).pos;have h3:=zPL (os:=os) (i:=i) (by grind);have ug:=zFV h0;simp only[cp];rcases zTd h0 with⟨h1,h4⟩|⟨h1,h4,h5⟩
  ·rw[h1,if_pos h4]
   have h6:pr os i*at0 os i≤729*7:=Lq h4 h2.2 (by omega) (by omega);simp only[pr]at h3 ⊢
   grind
  omega
def zG3(x:SPr)(i:Nat):Prop:=Exp x.zA (x.zS.getD i []) i∧(x.zG.getD i []).length+i+1=x.zA.length∧ ∀j,j<(x.zG.getD i []).length→Exp x.zA ((x.zG.getD i []).getD j []) i
structure zDK (x:SPr):Prop where
 os:True∧ ∀i,i<x.zA.length→Prime (at0 x.zA i)
 pl:x.zS.length=x.zA.length
 cl:x.zG.length=x.zA.length
 tl:∀i,i<x.zA.length→zG3 x i
structure Pres (x:SPr):Prop where
 os:Os x.zA
 pl:x.zS.length=x.zA.length
 cl:x.zG.length=x.zA.length
 tl:∀i,i<x.zA.length→zG3 x i
theorem Pres.w{x:SPr}(h:Pres x):zDK x:=⟨⟨trivial,h.os.2⟩,h.pl,h.cl,h.tl⟩
structure zAb (x:SPr):Prop extends Pres x where
 n6:x.zA.length≤6
 pr:pr x.zA x.zA.length≤729
theorem yO{α:Type}{v:List α}{i:Nat}(d:α)(h:i<v.length):ixO v (i:Int)=iG (v.getD i d):=by grind[zAU]
theorem zNY{x:SPr}(ho:Os x.zA)(hp:x.zS.length=x.zA.length)(hc:x.zG.length=x.zA.length){i:Nat}(hi:i<x.zA.length):
  (zON x i=iG (.inl ((i+1:Nat):Int))∧zG3 x i)∨(zON x i=iG (.inr (.inr iJ))∧ ¬zG3 x i):=by
 have h6:=ho.1;unfold zON;rw[yR hi,zK,yO [] (by omega),bs];rcases zCs (v:=x.zS.getD i []) ho hi with⟨h1,h2⟩|⟨h1,h2⟩
 ·rw[h1,bs,Jo,zM,yO [] (by omega),bs,zC (by omega) (by omega),bs,zC (by omega) (by omega),bs]
  by_cases hl:(x.zG.getD i []).length+i+1=x.zA.length
  ·rw[jO (by omega),zM,bs]
   rcases chk (body:=zU9 x i (x.zG.getD i [])) (x.zG.getD i []).length 0 (Kg _) (fun j=>Exp x.zA ((x.zG.getD i []).getD j []) i) (fun _=>iJ) (fun j _ hj _=>by
     refine uZ (zCs ho hi) (by omega) ?_;unfold zU9;rw[yR hj,zK,yO [] hj,bs]) (by
     unfold zU9;simp)with⟨g1,g2⟩|⟨j,_,hj,g1,g2⟩
   ·rw[show((0:Nat):Int)=0 from rfl]at g1
    rw[g1,bs];simp only
    rw[zC (by omega) (by omega),bs,cs];exact .inl ⟨rfl,h2,hl,by grind⟩
   ·rw[show((0:Nat):Int)=0 from rfl]at g1
    rw[g1,bs];exact .inr ⟨rfl,fun g=>g2 (g.2.2 j hj)⟩
  ·rw[jP (by omega),zK]
   exact .inr ⟨rfl,fun g=>hl g.2.1⟩
 ·rw[h1,bs,Kd,zK]
  exact .inr ⟨rfl,fun g=>h2 g.1⟩
theorem zNZ{x:SPr}(ho:Os x.zA)(hp:x.zS.length=x.zA.length)(hc:x.zG.length=x.zA.length){i:Nat}(hi:i<x.zA.length):
  (zOH x i=iG (.inl ((i+1:Nat):Int))∧zG3 x i)∨(zOH x i=iG (.inr (.inr iJ))∧ ¬zG3 x i):=by
 have h6:=ho.1;unfold zOH;rw[yR hi,zK,yO [] (by omega),bs];rcases zCM (v:=x.zS.getD i []) ho hi with⟨h1,h2⟩|⟨h1,h2⟩
 ·rw[h1,bs,Jo,zM,yO [] (by omega),bs,zC (by omega) (by omega),bs,zC (by omega) (by omega),bs]
  by_cases hl:(x.zG.getD i []).length+i+1=x.zA.length
  ·rw[jO (by omega),zM]
   rcases chk (body:=zUo x i) (x.zG.getD i []).length 0 (Kg _) (fun j=>Exp x.zA ((x.zG.getD i []).getD j []) i) (fun _=>iJ) (fun j _ hj _=>by
     refine uZ (zCM ho hi) (by omega) ?_;unfold zUo;rw[yO [] (by omega),bs,yR hj,zK,bs,yO [] hj,bs]) (by
     unfold zUo;rw[yO [] (by omega),bs,vE,zM])with⟨g1,g2⟩|⟨j,_,hj,g1,g2⟩
   ·rw[show((0:Nat):Int)=0 from rfl]at g1
    rw[g1,bs];simp only
    rw[zC (by omega) (by omega),bs,cs];exact .inl ⟨rfl,h2,hl,by grind⟩
   ·rw[show((0:Nat):Int)=0 from rfl]at g1
    rw[g1,bs];exact .inr ⟨rfl,fun g=>g2 (g.2.2 j hj)⟩
  ·rw[jP (by omega),zK]
   exact .inr ⟨rfl,fun g=>hl g.2.1⟩
 ·rw[h1,bs,Kd,zK]
  exact .inr ⟨rfl,fun g=>h2 g.1⟩
theorem zMm{x:SPr}(h6:x.zA.length≤6):
  (zI (zOM x) (1,0)=iG (.inl ())∧Os x.zA∧pr x.zA x.zA.length≤729)∨(zI (zOM x) (1,0)=iG (.inr iJ)∧ ¬(Os x.zA∧pr x.zA x.zA.length≤729)):=by
 rcases yC3 (body:=zOM x) (fun i=>(pr x.zA i,(i:Int))) x.zA.length 0 (Kg _) (fun i=>Prime (at0 x.zA i)∧pr x.zA (i+1)≤729) (fun _=>iJ) (fun i _ hi pE=>by
   have hp:∀j,j<i→Prime (at0 x.zA j):=by grind
   have ug:=zFV hp;have hle:pr x.zA i≤729:=by
    cases i with
    |zero=>simp[pr]
    |succ i=>grind
   unfold zOM;rw[yR hi,zK,yN hi,bs];rcases zBT (at0 x.zA i)with⟨h1,h2⟩|⟨h1,h2⟩
   ·have h3:=h2.pos
    have h4:pr x.zA i*at0 x.zA i≤729*7:=Lq hle h3.2 (by omega) (by omega);have h5:1*1≤pr x.zA i*at0 x.zA i:=Lq ug (by omega) (by omega) (by omega);simp only
    rw[h1,bs,Jo,zM,zC (by omega) (by omega),bs]
    by_cases h7:pr x.zA i*at0 x.zA i> 729
    ·rw[iM h7,zK]
     exact .inr ⟨rfl,by grind[pr]⟩
    ·rw[iL h7,zM,bs,zC (by omega) (by omega),bs,cs]
     exact .inl ⟨rfl,h2,by grind[pr]⟩
   grind) (by
   unfold zOM;simp)with⟨g1,g2⟩|⟨i,_,hi,g1,g2⟩
 ·refine .inl ⟨g1,⟨by omega,by grind⟩,?_⟩
  cases hn:x.zA.length with
  |zero=>simp[pr]
  |succ n=>grind
 ·refine .inr ⟨g1,fun⟨h1,h2⟩=>g2 ⟨h1.2 i hi,?_⟩⟩
  have:=zK8 (os:=x.zA) (n:=x.zA.length) h1.2 (x.zA.length-(i+1)) (by omega)
  grind
theorem zK9{os:List Int}(ho:Os os):zWM os=iG (cp os os.length):=by
 have h6:=ho.1;unfold zWM;rw[show(1,0)=(fun i=>(cp os i,(i:Int))) 0 from rfl,zX (body:=zNe os) (r:=cp os os.length) (fun i=>(cp os i,(i:Int))) os.length (fun i hi=>by
  have hp:=(ho.2 i hi).pos;have hc:=zTd (os:=os) (i:=i) fun j hj=>ho.2 j (by omega)
  have ug:=zFV (os:=os) (i:=i) fun j hj=>ho.2 j (by omega)
  unfold zNe;rw[yR hi,zK];simp only[cp]
  by_cases h:cp os i≤729
  ·have h4:cp os i*at0 os i≤729*7:=Lq h hp.2 (by omega) (by omega)
   have h5:1*1≤cp os i*at0 os i:=Lq (by omega) (by omega) (by omega) (by omega);rw[iM h,zK,yN hi,bs,zC (by omega) (by omega),bs,zC (by omega) (by omega),bs,cs,if_pos h]
  ·rw[iL h,zM,zC (by omega) (by omega),bs,cs,if_neg h]) (by
  unfold zNe;simp),bs]
theorem zD6{x:SPr}(hl:x.zA.length≤1048576):IsB (f_x x) (zAb x):=by
 unfold f_x
 by_cases h6:x.zA.length≤6
 ·rw[iL (by omega),zM]
  by_cases hp:x.zS.length=x.zA.length
  ·rw[jO (by omega),zM]
   by_cases hc:x.zG.length=x.zA.length
   ·rw[jO (by omega),zM]
    rcases zMm h6 with⟨h1,h2,h3⟩|⟨h1,h2⟩
    ·rw[h1,bs]
     exact(sW (f:=(zI (zON x) 0).bind fun r=>match r with|.inl _=>iG iI|.inr r=>iG r) x.zA.length (zG3 x) rfl (by grind[zNY]) (by unfold zON;simp)).iff ⟨fun g=>⟨⟨h2,hp,hc,g⟩,h6,h3⟩,fun g=>g.tl⟩
    ·rw[h1,bs]
     exact .inr ⟨rfl,fun g=>h2 ⟨g.os,g.pr⟩⟩
   ·rw[jP (by omega),zK]
    exact .inr ⟨rfl,fun g=>hc g.cl⟩
  ·rw[jP (by omega),zK]
   exact .inr ⟨rfl,fun g=>hp g.pl⟩
 ·rw[iM (by omega),zK]
  exact .inr ⟨rfl,fun g=>h6 g.n6⟩
theorem zD7{x:SPr}(hl:x.zA.length≤1048576):IsB (f_A x) (zAb x):=by
 unfold f_A
 by_cases h6:x.zA.length≤6
 ·rw[iL (by omega),zM]
  by_cases hp:x.zS.length=x.zA.length
  ·rw[jO (by omega),zM]
   by_cases hc:x.zG.length=x.zA.length
   ·rw[jO (by omega),zM]
    rcases chk (body:=zUn x) x.zA.length 0 (Kg _) (fun i=>Prime (at0 x.zA i)) (fun _=>iJ) (fun i _ hi _=>by
      refine uZ (zHY _) (by omega) ?_;unfold zUn;rw[yR hi,zK,yN hi,bs]) (by
      unfold zUn;simp)with⟨g1,g2⟩|⟨i,_,hi,g1,g2⟩
    ·rw[show((0:Nat):Int)=0 from rfl]at g1
     have ho:Os x.zA:=⟨by omega,by grind⟩;have hcp:=zTd (os:=x.zA) (i:=x.zA.length) ho.2;rw[g1,bs];simp only
     rw[zK9 ho,bs]
     by_cases h7:cp x.zA x.zA.length> 729
     ·rw[iM h7,zK]
      exact .inr ⟨rfl,fun g=>by have:=g.pr;omega⟩
     ·rw[iL h7,zM]
      exact(sW (f:=(zI (zOH x) 0).bind fun r=>match r with|.inl _=>iG iI|.inr r=>iG r) x.zA.length (zG3 x) rfl (by grind[zNZ]) (by unfold zOH;simp)).iff ⟨fun g=>⟨⟨ho,hp,hc,g⟩,h6,by omega⟩,fun g=>g.tl⟩
    ·rw[show((0:Nat):Int)=0 from rfl]at g1
     rw[g1,bs];exact .inr ⟨rfl,fun g=>g2 (g.os.2 i hi)⟩
   ·rw[jP (by omega),zK]
    exact .inr ⟨rfl,fun g=>hc g.cl⟩
  ·rw[jP (by omega),zK]
   exact .inr ⟨rfl,fun g=>hp g.pl⟩
 ·rw[iM (by omega),zK]
  exact .inr ⟨rfl,fun g=>h6 g.n6⟩
end Go.Pl

namespace Go.Pl
open Go Go.Ab Go.Wk Go.Pc
def lvl(x:SPr)(i:Nat):Lvl:=⟨at0 x.zA i,(x.zS.getD i []).drop (i+1),(x.zG.getD i []).map (·.drop (i+1))⟩
def suf(x:SPr)(k:Nat):Pcp:=(Kx k (x.zA.length-k)).map (lvl x)
theorem yQ(x:SPr)(k:Nat):(suf x k).length=x.zA.length-k:=by simp[suf]
theorem yG{x:SPr}{k:Nat}(h:k<x.zA.length):suf x k=lvl x k::suf x (k+1):=by unfold suf;rw[show x.zA.length-k=(x.zA.length-(k+1))+1 from by omega,Jcw,Jn]
theorem vT{x:SPr}{k:Nat}(h:x.zA.length≤k):suf x k=[]:=by unfold suf;rw[show x.zA.length-k=0 from by omega];rfl
theorem zA4{os v:List Int}{k:Nat}(h:Exp os v k)(hk:k<os.length):v=zeros (k+1)++v.drop (k+1):=by
 have h1:=h.1.1;apply Ky;intro i;rw[Kq];simp only[zeros,Jb,Kf,Hi];split
 ·rename_i hi
  have h2:=h.2 i (by omega);rw[J3 (by omega)];rw[at0,J2,J3 (by omega)]at h2;simpa using h2
 ·rw[show k+1+(i-(k+1))=i from by omega]
theorem zZc{x:SPr}:∀(d k:Nat)(v:List Int),k+d=x.zA.length→v.length=d→(∀i,i<d→0≤at0 v i∧at0 v i≤at0 x.zA (k+i)-1)→V (suf x k) v
 |0,k,v,hk,hv,_=>by rw[vT (by omega)];simpa[V]using hv
 |d+1,k,v,hk,hv,h=>by
  rw[yG (by omega)]
  match v,hv with
  |a::v,hv=>
   have h0:=h 0 (by omega);simp only[at0,Gu,Qh]at h0;refine⟨⟨h0.1,by simp only[lvl,at0];omega⟩,zZc d (k+1) v (by omega) (by simpa using hv) fun i hi=>?_⟩;have:=h (i+1) (by omega);simp only[at0,Jc9]at this;rw[show k+1+i=k+(i+1)from by omega];exact this
theorem jZ{x:SPr}{v:List Int}{k:Nat}(h:Exp x.zA v k)(hk:k<x.zA.length):V (suf x (k+1)) (v.drop (k+1)):=by
 have h1:=h.1.1;refine zZc (x.zA.length-(k+1)) (k+1) _ (by omega) (by rw[K3];omega) fun i hi=>?_
 have:=h.1.2 (k+1+i) (by omega);have e:at0 (v.drop (k+1)) i=at0 v (k+1+i):=by simp only[at0,J2,Hi]
 rw[e];exact this
theorem zDK.ok{x:SPr}(h:zDK x):∀(d k:Nat),k+d=x.zA.length→Pc.Ok (suf x k)
 |0,k,hk=>by rw[vT (by omega)];simp only[Pc.Ok]
 |d+1,k,hk=>by
  rw[yG (by omega)];obtain⟨t1,t2,t3⟩:=h.tl k (by omega);refine⟨by simp only[lvl];have:=(h.os.2 k (by omega)).pos;omega,jZ t1 (by omega),?_,fun c hc=>?_,zDK.ok h d (k+1) (by omega)⟩
  ·rw[yQ];simp only[lvl,Ji];omega
  ·simp only[lvl,Jl]at hc
   obtain⟨u,hu,rfl⟩:=hc;obtain⟨j,hj,rfl⟩:=Ke.1 hu;have:=t3 j hj;rw[J2,J3 hj]at this;exact jZ this (by omega)
theorem zDK.okAt{x:SPr}(h:zDK x){k:Nat}(hk:k≤x.zA.length):Pc.Ok (suf x k):=h.ok (x.zA.length-k) k (by omega)
theorem Pres.okAt{x:SPr}(h:Pres x){k:Nat}(hk:k≤x.zA.length):Pc.Ok (suf x k):=h.w.okAt hk
theorem yC(n:Nat):(zeros n).length=n:=by simp[zeros]
theorem zG4(k:Nat):zeros (k+1)=zeros k++[0]:=by simp[zeros,Lw]
theorem zDL{k:Nat}{a b:Int}{v:Vec}:(zeros k++a::v).set k b=zeros k++b::v:=by rw[Uj _ _ (by rw[yC];omega),yC,Kj,H5]
theorem zCN{k:Nat}{a:Int}{v:Vec}:ixO (zeros k++a::v) (k:Int)=iG a:=by rw[vS,Ja (by rw[yC];omega),yC,Kj];rfl
theorem zBU{k:Nat}{v:Vec}:zeros k++0::v=zeros (k+1)++v:=by rw[zG4,Jf];rfl
theorem qV{v:List Int}(h:v.length≤1000000):f_B v=iG v:=by unfold f_B;rw[yI (by simp;omega),bs,Jv]
end Go.Pl

namespace Go.Pl
open Go Go.Ab Go.Wk Go.Pc
theorem zB4{m:Vec→Vec→Vec}:∀(cs:List Vec)(x:Vec)(i:Nat)(acc:Vec),i<cs.length→i<x.length→
  img m (cs.take (i+1)) (x.take (i+1)) acc=iter (at0 x i).toNat (fun v=>m v (cs.getD i [])) (img m (cs.take i) (x.take i) acc)
 | [],_,_,_,h,_=>by simp at h
 |_::_,[],_,_,_,h=>by simp at h
 |c::cs,a::x,0,acc,_,_=>by rfl
 |c::cs,a::x,i+1,acc,h,h'=>by simp only[Lf,img,at0,Jc9];exact zB4 cs x i _ (by grind) (by grind)
theorem vY{α β:Type}{body:α×Int→Option ((α×Int)⊕α)}{S:β→Prop}(e:β→α)(g:β→β)(n:Int)(hn:0≤n)(hS:∀a,S a→S (g a))
  (h:∀a(i:Nat),S a→(i:Int)<n→body (e a,(i:Int))=iG (.inl (e (g a),((i+1:Nat):Int))))(he:∀a,S a→body (e a,n)=iG (.inr (e a))){a:β}(ha:S a):
  zI body (e a,0)=iG (e (iter n.toNat g a)):=by
 have ei:∀k,S (iter k g a):=fun k=>vR (S:=S) hS k ha
 exact zX (body:=body) (r:=e (iter n.toNat g a)) (fun i=>(e (iter i g a),(i:Int))) n.toNat (by grind[vH]) (by grind)
theorem zMn{k i:Nat}{v:Vec}(h:i<v.length):ixO (zeros k++v) ((k+i:Nat):Int)=iG (at0 v i):=by rw[vS,Ja (by grind[yC]),yC,show k+i-k=i from by omega,J3 h,at0,J2,J3 h];rfl
theorem zEj{x:SPr}(ho:Os x.zA):∀(d k:Nat)(v:List Int),k+d=x.zA.length→V (suf x k) v→v.length=d∧ ∀i,i<d→0≤at0 v i∧at0 v i<at0 x.zA (k+i)∧at0 v i≤6
 |0,k,v,hk,hv=>by
  rw[vT (by omega)]at hv;simp only[V]at hv
  grind
 |d+1,k,v,hk,hv=>by
  rw[yG (by omega)]at hv
  match v,hv with
  |a::v,hv=>
   obtain⟨h1,h2⟩:=zEj ho d (k+1) v (by omega) hv.2;refine⟨by simp[h1],fun i hi=>?_⟩;cases i with
   |zero=>
    have h3:=hv.1;simp only[lvl]at h3;have:=(ho.2 k (by omega)).pos
    grind
   |succ i=>
    grind
theorem zET{x:SPr}(h:Pres x){k i:Nat}(hk:k<x.zA.length)(hi:i<x.zA.length-(k+1)):
  ∃c,ixO x.zG (k:Int)=iG (x.zG.getD k [])∧ixO (x.zG.getD k []) (i:Int)=iG (zeros (k+1)++c)∧V (suf x (k+1)) c∧(lvl x k).cs.getD i []=c:=by
 obtain⟨t1,t2,t3⟩:=h.tl k hk;have hc:=h.cl
 grind[yO,jZ,zA4,lvl]
def FAt(x:SPr)(k:Nat)(g:SPr→Int→List Int→List Int→Option (List Int)):Prop:=
 ∀a b,V (suf x k) a→V (suf x k) b→g x k (zeros k++a) (zeros k++b)=iG (zeros k++mul (suf x k) a b)
def FIm(x:SPr)(k:Nat)(g:SPr→Int→List Int→Option (List Int)):Prop:=
 ∀v,V (suf x (k+1)) v→g x k (zeros (k+1)++v)=iG (zeros (k+1)++sig (suf x (k+1)) (lvl x k) v)
theorem zOa{x:SPr}(h:Pres x){k:Nat}(hk:k<x.zA.length){g:SPr→Int→List Int→List Int→Option (List Int)}(hg:FAt x (k+1) g):FIm x k (b_g g):=by
 intro v hv;have h6:=h.os.1;have ok:=h.okAt (k:=k+1) (by omega);obtain⟨pi,d7⟩:=zEj h.os (x.zA.length-(k+1)) (k+1) v (by omega) hv;have gj:=yQ x (k+1);have gC:(lvl x k).cs.length=x.zA.length-(k+1):=by have:=h.okAt (k:=k) (by omega);rw[yG hk]at this;rw[this.2.2.1,gj]
 have gK:∀c∈(lvl x k).cs,V (suf x (k+1)) c:=by have:=h.okAt (k:=k) (by omega);rw[yG hk]at this;exact this.2.2.2.1
 have hA:∀i,V (suf x (k+1)) (img (mul (suf x (k+1))) ((lvl x k).cs.take i) (v.take i) (zeros (suf x (k+1)).length)):=fun i=>
  qY (xH ok) _ _ (by grind) (wS ok)
 unfold b_g;rw[xC (by omega),bs,zC (by omega) (by omega),bs,cs];have hz:J1 x.zA.length (0:Int)=zeros (k+1)++zeros (suf x (k+1)).length:=by rw[gj];simp only[zeros,Jk];congr 1;omega
 rw[hz];have:=zX (body:=zUq g x k (zeros (k+1)++v)) (r:=zeros (k+1)++sig (suf x (k+1)) (lvl x k) v)
  (fun i=>(zeros (k+1)++img (mul (suf x (k+1))) ((lvl x k).cs.take i) (v.take i) (zeros (suf x (k+1)).length),((k+1+i:Nat):Int))) (x.zA.length-(k+1)) (fun i hi=>by
  have hr:=d7 i hi;obtain⟨c,c1,c2,c3,c4⟩:=zET h hk hi;unfold zUq;rw[iM (by omega),zK];rw[vY (S:=V (suf x (k+1))) (body:=zUp g x k (zeros (k+1)++v) (zeros (k+1)++img (mul (suf x (k+1))) ((lvl x k).cs.take i) (v.take i) (zeros (suf x (k+1)).length),((k+1+i:Nat):Int))) (fun u=>zeros (k+1)++u) (fun u=>mul (suf x (k+1)) u c) (at0 v i) hr.1 (by grind[xH]) (fun u q hu hq=>by
   unfold zUp;simp only
   rw[zMn (by omega),bs,iM hq,zK,zC (by omega) (by omega),bs,c1,bs,zC (by omega) (by omega),bs,zC (by omega) (by omega),bs,
    show(((k+1+i:Nat):Int)-(k:Int)-1)=(i:Int)from by omega,c2,bs,cs,hg u c hu c3,bs,zC (by omega) (by omega),bs,cs]) (fun u hu=>by
   unfold zUp;simp only
   rw[zMn (by omega),bs,iL (by omega),zM]) (hA i),bs,zC (by omega) (by omega),bs,cs]
  rw[zB4 _ _ _ _ (by omega) (by omega),c4];rfl) (by
  unfold zUq;rw[iL (by omega),zM,Jt (by omega),Jt (by omega)];rfl)
 grind[img]
theorem zWo{x:SPr}(h:Pres x){k:Nat}(hk:k<x.zA.length){g:SPr→Int→List Int→List Int→Option (List Int)}{gi:SPr→Int→List Int→Option (List Int)}(hg:FAt x (k+1) g)(hi:FIm x k gi):FAt x k (b_a gi g):=by
 intro a b ha hb;have h6:=h.os.1;have hp:=(h.os.2 k hk).pos;have ok:=h.okAt (k:=k+1) (by omega);have ok0:=h.okAt (k:=k) (by omega);obtain⟨bC,har⟩:=zEj h.os (x.zA.length-k) k a (by omega) ha;obtain⟨cR,hbr⟩:=zEj h.os (x.zA.length-k) k b (by omega) hb;rw[yG hk]at ha hb ok0;obtain⟨a0,a,rfl⟩:∃a0 a',a=a0::a':=by cases a with|nil=>grind|cons p q=>simp
 obtain⟨b0,b,rfl⟩:∃a0 a',b=a0::a':=by cases b with|nil=>grind|cons p q=>simp
 obtain⟨⟨a1,a2⟩,ha⟩:=ha;obtain⟨⟨b1,b2⟩,hb⟩:=hb;have m8:(lvl x k).o=at0 x.zA k:=rfl;rw[m8]at a2 b2;unfold b_a;rw[iL (by omega),zM,qV (by grind[yC]),bs,qV (by simp[yC]at cR ⊢;omega),bs,zCN,bs,zCN,bs,J8,zDL,zDL,zBU,zBU];have eu:∀u,V (suf x (k+1)) u→V (suf x (k+1)) (sig (suf x (k+1)) (lvl x k) u):=by grind[zCJ]
 have ei:V (suf x (k+1)) (iter b0.toNat (sig (suf x (k+1)) (lvl x k)) a):=vR eu _ ha;rw[vY (S:=V (suf x (k+1))) (fun u=>zeros (k+1)++u) (sig (suf x (k+1)) (lvl x k)) b0 b1 eu (fun u q hu hq=>by
   unfold zWN;simp only
   rw[zCN,bs,iM hq,zK,hi u hu,bs,zC (by omega) (by omega),bs,cs]) (fun u hu=>by
   unfold zWN;simp only
   rw[zCN,bs,iL (by omega),zM]) ha,bs,zC (by omega) (by omega),bs,cs,hg _ _ ei hb,bs,bs,bs,zC (by omega) (by omega),bs,yN hk,bs]
 have hm:=xH ok ei hb;have uz:=(zEj h.os (x.zA.length-(k+1)) (k+1) _ (by omega) hm).1;have own:∀u,V (suf x (k+1)) u→f_B (zeros (k+1)++u)=iG (zeros (k+1)++u):=fun u hu=>qV (by
  have:=(zEj h.os (x.zA.length-(k+1)) (k+1) _ (by omega) hu).1
  grind[yC])
 rw[yG hk,yZ,m8]
 by_cases hge:a0+b0≥at0 x.zA k
 ·have t1:=(h.tl k hk).1
  have hw:=jZ t1 hk;have hwl:=h.pl;rw[iM hge,zK,if_pos hge,bs,zC (by omega) (by omega),bs,bs,yO [] (by omega),bs,zA4 t1 hk,hg _ _ hw hm,bs,own _ (xH ok hw hm),bs];rw[←zBU,zCN,bs,zDL];rfl
 ·rw[iL hge,zM,if_neg hge,own _ hm,bs,←zBU,zCN,bs,zDL]
theorem zFW{x:SPr}(h:Pres x):∀(d k:Nat),k+d=x.zA.length→(∀m,2*d+1≤m→FAt x k (zOJ m))∧(1≤d→ ∀m,2*d≤m→FIm x k (zOI m))
 |0,k,hk=>by
  refine⟨fun m hm a b ha hb=>?_,fun h=>by omega⟩;have h6:=h.os.1;obtain⟨m,rfl⟩:∃m',m=m'+1:=⟨m-1,by omega⟩;show b_a _ _ x k _ _=_;unfold b_a;rw[iM (by omega),zK,xC (by omega),bs,vT (by omega)]
  grind[mul,zeros]
 |d+1,k,hk=>by
  obtain⟨h1,h2⟩:=zFW h d (k+1) (by omega);have hI:∀m,2*(d+1)≤m→FIm x k (zOI m):=fun m hm=>by obtain⟨m,rfl⟩:∃m',m=m'+1:=⟨m-1,by omega⟩;exact zOa h (by omega) (h1 m (by omega))
  refine⟨fun m hm=>?_,fun _=>hI⟩;obtain⟨m,rfl⟩:∃m',m=m'+1:=⟨m-1,by omega⟩;exact zWo h (by omega) (h1 m (by omega)) (hI m (by omega))
theorem zPM{x:SPr}(h:Pres x){k:Nat}(hk:k≤x.zA.length):FAt x k f_a:=fun a b ha hb=>
 zB1 (2*(x.zA.length-k)+1) fun m hm=>(zFW h (x.zA.length-k) k (by omega)).1 m hm a b ha hb
theorem zOb{x:SPr}(h:Pres x){k:Nat}(hk:k<x.zA.length):FIm x k f_g:=fun v hv=>
 zB1 (2*(x.zA.length-k)) fun m hm=>(zFW h (x.zA.length-k) k (by omega)).2 (by omega) m hm v hv
end Go.Pl

namespace Go.Pl
open Go Go.Ab Go.Wk Go.Pc
theorem zCO:∀{P Q:Pcp},Q<:+P→wO P→wO Q
 | [],Q,h,_=>by grind
 |l::P,Q,h,hc=>by
  rcases Jag.1 h with rfl|h
  ·exact hc
  ·exact zCO h hc.1
theorem zJB:∀{P Q:Pcp},Q<:+P→Pc.Ok P→Pc.Ok Q
 | [],Q,h,_=>by grind
 |l::P,Q,h,hc=>by
  rcases Jag.1 h with rfl|h
  ·exact hc
  ·exact zJB h hc.2.2.2.2
theorem zOc(x:SPr)(k:Nat):suf x (k+1)<:+suf x k:=by grind[yG,vT]
theorem zEU{x:SPr}{k:Nat}(h:wO (suf x k)):∀i,wO (suf x (k+i))
 |0=>h
 |i+1=>zCO (zOc x (k+i)) (zEU h i)
theorem zHZ{x:SPr}(h:Pres x){k:Nat}(hk:k≤x.zA.length)(hc:wO (suf x k)):Grp (V (suf x k)) (mul (suf x k)) (zeros (suf x k).length):=zCK _ (h.okAt hk) hc
theorem zGS{x:SPr}:∀(i k:Nat)(v:Vec),k+i≤x.zA.length→V (suf x k) v→ ∃q v',v=q++v'∧q.length=i∧V (suf x (k+i)) v'∧
  ∀a b,V (suf x (k+i)) a→V (suf x (k+i)) b→mul (suf x k) (q++a) (zeros i++b)=q++mul (suf x (k+i)) a b
 |0,k,v,_,hv=>⟨[],v,rfl,rfl,hv,fun a b _ _=>rfl⟩
 |i+1,k,v,hk,hv=>by
  rw[yG (by omega)]at hv
  match v,hv with
  |e::v,hv=>
   obtain⟨q,v',h1,h2,h3,h4⟩:=zGS i (k+1) v (by omega) hv.2;rw[show k+1+i=k+(i+1)from by omega]at h3 h4;refine⟨e::q,v',by grind,by simp[h2],h3,fun a b ha hb=>?_⟩;have he:=hv.1;rw[yG (by omega)];show mul (lvl x k::suf x (k+1)) (e::(q++a)) (0::(zeros i++b))=_;rw[yZ,H0,if_neg (by omega)]
   grind[iter]
def FTV(x:SPr)(k:Nat)(g:SPr→List Int→List Int→Option (List Int)):Prop:=
 ∀p v u,p.length=k→V (suf x k) v→V (suf x k) u→g x (p++v) (zeros k++u)=iG (p++mul (suf x k) v u)
def FTG(x:SPr)(k:Nat)(g:SPr→List Int→Int→Option (List Int)):Prop:=
 ∀p v,p.length=k→V (suf x k) v→g x (p++v) (k:Int)=iG (p++mul (suf x k) v (1::zeros (x.zA.length-(k+1))))
theorem zJC{x:SPr}(h:Pres x){k:Nat}(hk:k<x.zA.length){g:SPr→List Int→List Int→Option (List Int)}(hg:FTV x (k+1) g){t:Vec}(ht:V (suf x (k+1)) t)
  {body1:List Int×Int→Int→List Int×Int→Option ((List Int×Int)⊕List Int)}{body2:List Int×Int→Option ((List Int×Int)⊕List Int)}
  (pV:∀s,body2 s=cond (decide (s.2<(t.length:Int))) ((ixO t s.2).bind fun v17=>(zI (body1 s v17) (s.1,0)).bind fun r=>(rng (s.2+1)).bind fun v=>iG (.inl (r,v))) (iG (.inr s.1)))
  (iB:∀s v q,body1 s v q=cond (decide (q.2<v)) ((ixO x.zG (k:Int)).bind fun cl=>(ixO cl s.2).bind fun c=>(g x q.1 c).bind fun r=>(rng (q.2+1)).bind fun w=>iG (.inl (r,w))) (iG (.inr q.1)))
  {p:Vec}(hp:p.length=k+1){u:Vec}(hu:V (suf x (k+1)) u):zI body2 (p++u,0)=iG (p++img (mul (suf x (k+1))) (lvl x k).cs t u):=by
 have h6:=h.os.1;have ok:=h.okAt (k:=k+1) (by omega);have ok0:=h.okAt (k:=k) (by omega);rw[yG hk]at ok0;obtain⟨fL,tx⟩:=zEj h.os (x.zA.length-(k+1)) (k+1) t (by omega) ht;have gC:(lvl x k).cs.length=x.zA.length-(k+1):=by rw[ok0.2.2.1,yQ]
 have hA:∀i,V (suf x (k+1)) (img (mul (suf x (k+1))) ((lvl x k).cs.take i) (t.take i) u):=fun i=>
  qY (xH ok) _ _ (fun c hc=>ok0.2.2.2.1 c (by grind)) hu
 have:=zX (body:=body2) (r:=p++img (mul (suf x (k+1))) (lvl x k).cs t u) (fun i=>(p++img (mul (suf x (k+1))) ((lvl x k).cs.take i) (t.take i) u,(i:Int))) t.length (fun i hi=>by
  have hr:=tx i (by omega);obtain⟨c,c1,c2,c3,c4⟩:=zET h hk (i:=i) (by omega);rw[pV];simp only
  rw[yR hi,zK,yN hi,bs];rw[vY (S:=V (suf x (k+1))) (fun u=>p++u) (fun u=>mul (suf x (k+1)) u c) (at0 t i) hr.1 (by grind[xH]) (fun u q hu hq=>by
   rw[iB];simp only
   rw[iM hq,zK,c1,bs,c2,bs,hg p u c hp hu c3,bs,zC (by omega) (by omega),bs,cs]) (by grind) (hA i),bs,zC (by omega) (by omega),bs,cs]
  rw[zB4 _ _ _ _ (by omega) (by omega),c4]) (by
  grind)
 grind[img]
theorem zXO{p v:Vec}{a:Int}{k:Nat}(hp:p.length=k):ixO (p++a::v) (k:Int)=iG a:=by rw[vS,Ja (by omega),hp,Kj];rfl
theorem p_set{p v:Vec}{a b:Int}{k:Nat}(hp:p.length=k):(p++a::v).set k b=p++b::v:=by simp_all
theorem zMo{x:SPr}(h:Pres x){k:Nat}(hk:k<x.zA.length)(hc:wO (suf x (k+1))){g:SPr→List Int→List Int→Option (List Int)}(hg:FTV x (k+1) g):FTG x k (b_b g):=by
 intro p v hp hv;have h6:=h.os.1;have G:=zHZ h (k:=k+1) (by omega) hc;have ok:=h.okAt (k:=k+1) (by omega);have ok0:=h.okAt (k:=k) (by omega);obtain⟨pi,d7⟩:=zEj h.os (x.zA.length-k) k v (by omega) hv;rw[yG hk]at hv ok0;obtain⟨e,t,rfl⟩:∃a0 a',v=a0::a':=by cases v with|nil=>grind|cons p q=>simp
 obtain⟨⟨e1,e2⟩,ht⟩:=hv;have m8:(lvl x k).o=at0 x.zA k:=rfl;rw[m8]at e2;have cv:=(h.os.2 k hk).pos;have fL:=(zEj h.os (x.zA.length-(k+1)) (k+1) t (by omega) ht).1;have p8:=yQ x (k+1);unfold b_b;have hs:yD (p++e::t) ((k+1:Nat):Int) ((p++e::t).length:Int)=iG t:=by
  unfold yD;rw[if_pos (by grind)];have e3:(p++e::t).drop (k+1)=t:=by rw[List.drop_append,Ue (by omega),hp,show k+1-k=1 from by omega];rfl
  grind[J8]
 have bx:f_F t=iG t:=by grind[f_F,yI]
 rw[zC (by omega) (by omega),bs,cs,hs,bs,bx,bs];have hz:=zX (body:=zUA k t) (r:=(p++[e])++zeros t.length) (fun i=>((p++[e])++(zeros i++t.drop i),(i:Int))) t.length (fun i hi=>by
  have hl:((p++[e])++zeros i).length=k+1+i:=by grind[yC]
  unfold zUA;simp only
  rw[yR hi,zK,zC (by omega) (by omega),bs,zC (by omega) (by omega),bs,show(k:Int)+1+(i:Int)=((k+1+i:Nat):Int)from by omega,vS,←Jf,Ja (by omega),hl,Kj,
   Uk hi,Qr,bs,zC (by omega) (by omega),bs,cs,J8,Uj _ _ (by omega),hl,Kj,H5,zG4]
  simp) (by
  unfold zUA;simp)
 simp only[zeros,H2,Ge,Jv,Jf,H4]at hz;rw[show((0:Nat):Int)=0 from rfl]at hz;rw[hz,bs,J8,zXO hp,bs,zC (by omega) (by omega),bs,bs,p_set hp,zXO hp,bs,yN hk,bs];have eR:J1 t.length (0:Int)=zeros (suf x (k+1)).length:=by rw[p8,fL];rfl
 rw[yG hk,yZ,m8];have gw:mul (suf x (k+1)) (iter (1:Int).toNat (sig (suf x (k+1)) (lvl x k)) t) (zeros (x.zA.length-(k+1)))=sig (suf x (k+1)) (lvl x k) t:=by rw[←p8];show mul _ (sig (suf x (k+1)) (lvl x k) t) _=_;exact G.oner (zCJ ok0 ht)
 rw[gw,eR]
 by_cases heq:e+1=at0 x.zA k
 ·have t1:=(h.tl k hk).1
  have hw:=jZ t1 hk;have hwl:=h.pl;have db:(p++[(0:Int)]).length=k+1:=by simp[hp]
  rw[show(e+1==at0 x.zA k)=iI from by grind,zK,if_pos (by omega),bs,yO [] (by omega),bs,p_set hp];have dt:p++0::zeros (suf x (k+1)).length=(p++[0])++zeros (suf x (k+1)).length:=by simp
  rw[dt,zA4 t1 hk,hg _ _ _ db G.ein hw,bs,G.onel hw];rw[zJC (body1:=zZK g x k) (body2:=zZL g x k t) h hk hg ht (fun _=>rfl) (fun _ _ _=>rfl) db hw,bs];rw[zER G.toMon _ _ ok0.2.2.2.1 hw,show e+1-at0 x.zA k=0 from by omega];simp only[Jf,H4];rfl
 ·have db:(p++[e+1]).length=k+1:=by simp[hp]
  rw[show(e+1==at0 x.zA k)=iJ from by grind,zM,if_neg (by omega)];have dt:p++(e+1)::zeros (suf x (k+1)).length=(p++[e+1])++zeros (suf x (k+1)).length:=by simp
  rw[dt,zJC (body1:=zZM g x k) (body2:=zZN g x k t) h hk hg ht (fun _=>rfl) (fun _ _ _=>rfl) db G.ein,bs];simp only[Jf,H4];rfl
theorem zAz{n i:Nat}(h:i<n):xM n i=zeros i++1::zeros (n-(i+1)):=by
 have:zeros n=zeros i++0::zeros (n-(i+1)):=by
  simp only[zeros];rw[←Ju,Jk]
  grind
 grind[xM,zDL]
theorem zEV(n:Nat):(wP n).length=n:=by simp[wP]
theorem zIa{n i:Nat}(h:i<n):(wP n).getD i []=xM n i:=by simp[wP,J2,h]
theorem zTe{x:SPr}(h:Pres x){k:Nat}(hk:k≤x.zA.length)(hc:wO (suf x k)){g:SPr→List Int→Int→Option (List Int)}(hg:∀j,k≤j→j<x.zA.length→FTG x j g):FTV x k (b_c g):=by
 intro p v u hp hv hu;have h6:=h.os.1;have G:=zHZ h hk hc;have ok:=h.okAt hk;obtain⟨eY,dB⟩:=zEj h.os (x.zA.length-k) k u (by omega) hu;have p8:=yQ x k;have hV1:∀j,j≤x.zA.length→j<x.zA.length→V (suf x j) (1::zeros (x.zA.length-(j+1))):=fun j hj mD=>by rw[yG mD];have:=(h.os.2 j mD).pos;refine⟨⟨by omega,by show 1<at0 x.zA j;omega⟩,?_⟩;rw[←yQ];exact wS (h.okAt (by omega))
 have hUn:∀i,i<x.zA.length-k→V (suf x k) (xM (x.zA.length-k) i):=by grind[zCI]
 have hUs:∀c∈wP (x.zA.length-k),V (suf x k) c:=fun c hc=>by
  simp only[wP,Jl,Kn]at hc
  grind
 have hA:∀i,V (suf x k) (img (mul (suf x k)) ((wP (x.zA.length-k)).take i) (u.take i) v):=fun i=>
  qY (xH ok) _ _ (by grind) hv
 have ig:∀i w,i<x.zA.length-k→V (suf x k) w→g x (p++w) ((k+i:Nat):Int)=iG (p++mul (suf x k) w (xM (x.zA.length-k) i)):=fun i w hi hw=>by obtain⟨q,w',h1,h2,h3,h4⟩:=zGS i k w (by omega) hw;have h5:=hg (k+i) (by omega) (by omega) (p++q) w' (by grind) h3;rw[Jf,←h1]at h5;rw[h5,zAz hi,h1,show x.zA.length-k-(i+1)=x.zA.length-(k+i+1)from by omega,h4 w' _ h3 (hV1 (k+i) (by omega) (by omega)),Jf]
 unfold b_c;have tu:(zeros k++u).length=x.zA.length:=by grind[yC]
 have:=zX (body:=zUC g x (zeros k++u)) (r:=p++mul (suf x k) v u) (fun j=>(p++img (mul (suf x k)) ((wP (x.zA.length-k)).take (j-k)) (u.take (j-k)) v,(j:Int))) x.zA.length (fun j hj=>by
  unfold zUC;simp only
  rw[tu,yR hj,zK];rcases Jj j k with hjk|hjk
  ·have e0:ixO (zeros k++u) (j:Int)=iG 0:=by
    rw[vS,Jx (by grind)]
    grind[zeros]
   rw[e0,bs,show j-k=0 from by omega,show j+1-k=0 from by omega];rw[xK];unfold zUB;simp only
   rw[show decide ((0:Int)<0)=iJ from rfl,zM];simp only
   rw[bs,zC (by omega) (by omega),bs,cs]
  ·obtain⟨i,rfl⟩:∃i,j=k+i:=⟨j-k,by omega⟩
   have hi:i<x.zA.length-k:=by omega
   have hr:=dB i hi;rw[zMn (by omega),bs,show k+i-k=i from by omega,show k+i+1-k=i+1 from by omega];rw[vY (S:=V (suf x k)) (fun w=>p++w) (fun w=>mul (suf x k) w (xM (x.zA.length-k) i)) (at0 u i) hr.1 (by grind[xH]) (fun w q hw hq=>by
    unfold zUB;simp only
    rw[iM hq,zK,ig i w hi hw,bs,zC (by omega) (by omega),bs,cs]) (fun w hw=>by
    unfold zUB;simp) (hA i),bs,zC (by omega) (by omega),bs,cs]
   rw[zB4 _ _ _ _ (by grind[zEV]) (by omega),zIa hi]) (by
  unfold zUC;simp only
  rw[tu,vE,zM,Jt (by grind[zEV]),Jt (by omega),zER G.toMon _ _ hUs hv];have hn:=normal (suf x k) ok (fun Q hQ=>(zCK Q (zJB hQ ok) (zCO hQ hc)).toMon) u hu
  grind)
 simp only[Jc7,Ka,img]at this
 grind
theorem zFX{x:SPr}(h:Pres x):∀(d k:Nat),k+d=x.zA.length→wO (suf x k)→(∀m,2*d+1≤m→FTV x k (zR1 m))
 |d,k,hk,hc=>fun m hm=>by
  obtain⟨m,rfl⟩:∃m',m=m'+1:=⟨m-1,by omega⟩;refine zTe h (by omega) hc fun j hj bV=>?_
  obtain⟨m,rfl⟩:∃m',m=m'+1:=⟨m-1,by omega⟩;have dn:wO (suf x (j+1)):=by
   have:=zEU hc (j+1-k)
   grind
  exact zMo h bV dn (zFX h (x.zA.length-(j+1)) (j+1) (by omega) dn m (by omega))
 termination_by d=>d
 decreasing_by omega
theorem zWp{x:SPr}(h:Pres x){k:Nat}(hk:k≤x.zA.length)(hc:wO (suf x k)):FTV x k f_c:=fun p v u hp hv hu=>
 zB1 (2*(x.zA.length-k)+1) fun m hm=>zFX h (x.zA.length-k) k (by omega) hc m hm p v u hp hv hu
theorem zWq{x:SPr}(h:Pres x){k:Nat}(hk:k<x.zA.length)(hc:wO (suf x (k+1))):FTG x k f_b:=fun p v hp hv=>
 zB1 (2*(x.zA.length-k)) fun m hm=>by obtain⟨m,rfl⟩:∃m',m=m'+1:=⟨m-1,by omega⟩;exact zMo h hk hc (zFX h (x.zA.length-(k+1)) (k+1) (by omega) hc m (by omega)) p v hp hv
end Go.Pl

namespace Go.Pl
open Go Go.Ab Go.Wk Go.Pc
abbrev fv(k:Nat)(v:Vec):Vec:=zeros k++v
section
variable {x:SPr} (h:Pres x) {k:Nat} (hk:k≤x.zA.length) (hc:wO (suf x k))
 include h hk
theorem vD{v:Vec}(hv:V (suf x k) v):v.length=x.zA.length-k:=(zEj h.os (x.zA.length-k) k v (by omega) hv).1
theorem zCP{v:Vec}(hv:V (suf x k) v):(fv k v).length=x.zA.length:=by rw[J5,yC,vD h hk hv];omega
theorem zPN:J1 x.zA.length (0:Int)=fv k (zeros (suf x k).length):=by
 have _:=h;rw[yQ];simp only[fv,zeros,Jk];congr 1;omega
 include hc
theorem zOd{i:Nat}(hi:i<x.zA.length-k):V (suf x k) (xM (x.zA.length-k) i):=by
 have _:=hc;have:=yQ x k;rw[←this]at hi ⊢
 exact zCI (h.okAt hk) hi
theorem zMp{p:Vec}(hp:p.length=k){i:Nat}(hi:i<x.zA.length-k){w:Vec}(hw:V (suf x k) w):f_b x (p++w) ((k+i:Nat):Int)=iG (p++mul (suf x k) w (xM (x.zA.length-k) i)):=by
 obtain⟨q,w',h1,h2,h3,h4⟩:=zGS i k w (by omega) hw;have dn:wO (suf x (k+i+1)):=zEU hc (i+1);have h5:=zWq h (k:=k+i) (by omega) dn (p++q) w' (by simp[hp,h2]) h3;have h7:V (suf x (k+i)) (1::zeros (x.zA.length-(k+i+1))):=by
  have mD:k+i<x.zA.length:=by omega
  rw[yG mD];have:=(h.os.2 (k+i) mD).pos;refine⟨⟨by omega,by show 1<at0 x.zA (k+i);omega⟩,?_⟩;rw[←yQ];exact wS (h.okAt (by omega))
 rw[Jf,←h1]at h5;rw[h5,zAz hi,h1,show x.zA.length-k-(i+1)=x.zA.length-(k+i+1)from by omega,h4 w' _ h3 h7,Jf]
theorem zIb{a b:Vec}(ha:V (suf x k) a)(hb:V (suf x k) b):f_c x (fv k a) (fv k b)=iG (fv k (mul (suf x k) a b)):=
 zWp h hk hc (zeros k) a b (yC k) ha hb
theorem zMq{a:Vec}(ha:V (suf x k) a):f_F (fv k a)=iG (fv k a):=by have _:=hc;have:=zCP h hk ha;have h6:=h.os.1;unfold f_F;rw[yI (by simp only[Jq];omega),bs,Jv]
theorem zDM{a b:Vec}(ha:V (suf x k) a)(hb:V (suf x k) b):zUI x (fv k a) (fv k b)=iG (fv k (mul (suf x k) a b)):=by unfold zUI;rw[zMq h hk hc ha,bs,zIb h hk hc ha hb,bs]
theorem zOe{c:Vec}(pg:V (suf x k) c){e:Int}(e0:0≤e)(e1:e≤1000):zWS x (fv k c) e=iG (fv k (pw (mul (suf x k)) (zeros (suf x k).length) c e.toNat)):=by
 have h6:=h.os.1;have ok:=h.okAt hk;unfold zWS;rw[zCP h hk pg,xC (by omega),bs,zPN h hk];rw[vY (S:=V (suf x k)) (body:=zNi x (fv k c) e) (fun u=>fv k u) (fun u=>mul (suf x k) u c) e e0 (fun u hu=>xH ok hu pg) (fun u i hu hi=>by
  unfold zNi;simp only
  rw[iM hi,zK,zIb h hk hc hu pg,bs,zC (by omega) (by omega),bs,cs]) (fun u hu=>by
  unfold zNi;simp only
  rw[iL (by omega),zM]) (wS ok),bs]
 rfl
theorem zMr{v:Vec}(hv:V (suf x k) v):∃w,V (suf x k) w∧mul (suf x k) v w=zeros (suf x k).length∧f_P x (fv k v)=iG (fv k w):=by
 have h6:=h.os.1;have ok:=h.okAt hk;have G:=zHZ h hk hc;have pi:=zCP h hk hv;have p8:=yQ x k;unfold f_P;rw[zMq h hk hc hv,bs,pi,xC (by omega),bs,zPN h hk]
 let I:Nat→(List Int×List Int×Int)→Prop:=fun j s=> ∃A w,s=(fv k A,fv k w,(j:Int))∧V (suf x k) A∧V (suf x k) w∧mul (suf x k) v w=A∧ ∃A',A=zeros (j-k)++A'
 have key:=uP (body:=zUH x (fv k v)) (Q:=fun r=> ∃w,V (suf x k) w∧mul (suf x k) v w=zeros (suf x k).length∧r=fv k w) I x.zA.length (fun j s hj hI=>by
  obtain⟨A,w,rfl,hA,hw,hm,A',hA'⟩:=hI;left;unfold zUH;simp only
  rw[pi,yR hj,zK];rcases Jj j k with hjk|hjk
  ·have e0:ixO (fv k A) (j:Int)=iG 0:=by
    rw[vS,Jx (by rw[yC];exact hjk)];simp[zeros,hjk]
   rw[xK];unfold zR2;simp only
   rw[e0,bs,show((0:Int) != 0)=iJ from rfl,zM];simp only
   rw[bs,zC (by omega) (by omega),bs,cs];exact⟨_,rfl,A,w,rfl,hA,hw,hm,A,by rw[show j+1-k=0 from by omega];rfl⟩
  ·obtain⟨i,rfl⟩:∃i,j=k+i:=⟨j-k,by omega⟩
   have hi:i<x.zA.length-k:=by omega
   rw[show k+i-k=i from by omega]at hA';have fS:=vD h hk hA;obtain⟨a0,A',rfl⟩:∃p q,A'=p::q:=by
    cases A' with
    |nil=>rw[hA',J5,yC,Jq]at fS;omega
    |cons p q=>exact⟨p,q,rfl⟩
   have cv:=(h.os.2 (k+i) hj).pos;have inner:=uP (body:=zR2 x (fv k A,fv k w,((k+i:Nat):Int))) (s:=(fv k A,fv k w))
    (Q:=fun r=> ∃B u,r=(fv k B,fv k u)∧V (suf x k) B∧V (suf x k) u∧mul (suf x k) v u=B∧ ∃B',B=zeros (i+1)++B')
    (fun q s=> ∃B u b B',s=(fv k B,fv k u)∧V (suf x k) B∧V (suf x k) u∧mul (suf x k) v u=B∧B=zeros i++b::B'∧(b=0∨b=a0+q)) 10 (fun q s hq hs=>by
     obtain⟨B,u,b,B',rfl,hB,hu,bh,ph,hb⟩:=hs;have hz:ixO (fv k B) ((k+i:Nat):Int)=iG b:=by rw[fv,zMn (by rw[vD h hk hB];exact hi),ph,at0,J2,Ja (by rw[yC];omega),yC,Kj];rfl
     unfold zR2;simp only
     rw[hz,bs]
     by_cases aV:b=0
     ·subst aV
      right;rw[show((0:Int) != 0)=iJ from rfl,zM];exact⟨_,rfl,B,u,rfl,hB,hu,bh,B',by rw[ph,zBU]⟩
     ·left
      have hbq:b=a0+q:=by rcases hb with hb|hb;exact absurd hb aV;exact hb
      rw[show(b != 0)=iI from by simpa using aV,zK,zMp h hk hc (yC k) hi hB,bs,zMp h hk hc (yC k) hi hu,bs];have hU:=zOd h hk hc hi;obtain⟨q',v',h1,h2,h3,h4⟩:=zGS i k B (by omega) hB;have hqv:q'=zeros i∧v'=b::B':=by rw[ph]at h1;have:=List.append_inj h1 (by rw[yC,h2]);exact⟨this.1.symm,this.2.symm⟩
      obtain⟨rfl,rfl⟩:=hqv;have h7:V (suf x (k+i)) (1::zeros (x.zA.length-(k+i+1))):=by rw[yG hj];refine⟨⟨by omega,by show 1<at0 x.zA (k+i);omega⟩,?_⟩;rw[←yQ];exact wS (h.okAt (by omega))
      have h8:=h4 (b::B') _ h3 h7;rw[show x.zA.length-(k+i+1)=x.zA.length-k-(i+1)from by omega,←zAz hi,←h1,yG hj,yZ]at h8;refine⟨_,rfl,mul (suf x k) B (xM (x.zA.length-k) i),mul (suf x k) u (xM (x.zA.length-k) i),?_⟩;have m8:(lvl x (k+i)).o=at0 x.zA (k+i):=rfl;rw[m8]at h8
      by_cases hge:b+1≥at0 x.zA (k+i)
      ·rw[if_pos hge]at h8
       refine⟨_,_,rfl,xH ok hB hU,xH ok hu hU,?_,h8,?_⟩
       ·rw[←G.assoc hv hu hU,bh]
       ·left
        rw[yG hj]at h3;have:=h3.1.2;rw[m8]at this;omega
      ·rw[if_neg hge]at h8
       refine⟨_,_,rfl,xH ok hB hU,xH ok hu hU,?_,h8,?_⟩
       ·rw[←G.assoc hv hu hU,bh]
       ·right;omega) (fun s hs=>by
     obtain⟨B,u,b,B',rfl,hB,hu,bh,ph,hb⟩:=hs;have hz:ixO (fv k B) ((k+i:Nat):Int)=iG b:=by rw[fv,zMn (by rw[vD h hk hB];exact hi),ph,at0,J2,Ja (by rw[yC];omega),yC,Kj];rfl
     have hbr:=(zEj h.os (x.zA.length-k) k B (by omega) hB).2 i hi;have ha:=(zEj h.os (x.zA.length-k) k A (by omega) hA).2 i hi;have e1:at0 B i=b:=by rw[ph,at0,J2,Ja (by rw[yC];omega),yC,Kj];rfl
     have e2:at0 A i=a0:=by rw[hA',at0,J2,Ja (by rw[yC];omega),yC,Kj];rfl
     have aV:b=0:=by omega
     subst aV;unfold zR2;simp only
     rw[hz,bs,show((0:Int) != 0)=iJ from rfl,zM];exact⟨_,rfl,B,u,rfl,hB,hu,bh,B',by rw[ph,zBU]⟩) ⟨A,w,a0,A',rfl,hA,hw,hm,hA',.inr (by omega)⟩
   obtain⟨r,r1,B,u,rfl,hB,hu,bh,B',ph⟩:=inner;rw[r1,bs,zC (by omega) (by omega),bs,cs];exact⟨_,rfl,B,u,rfl,hB,hu,bh,B',by rw[ph,show k+i+1-k=i+1 from by omega]⟩) (fun s hI=>by
  obtain⟨A,w,rfl,hA,hw,hm,A',hA'⟩:=hI;unfold zUH;simp only
  rw[pi,vE,zM];refine⟨_,rfl,w,hw,?_,rfl⟩;have fS:=vD h hk hA;rw[hA',J5,yC]at fS;rw[hm,hA',Lp (l:=A') (by omega),Je,p8]) (s:=(fv k v,fv k (zeros (suf x k).length),0))
  ⟨v,_,rfl,hv,wS ok,G.oner hv,v,by rw[Jc7];rfl⟩
 obtain⟨r,r1,w,hw,hm,rfl⟩:=key;rw[r1,bs];exact⟨w,hw,hm,rfl⟩
theorem zCQ{a b:Vec}(ha:V (suf x k) a)(hb:V (suf x k) b):∃c,V (suf x k) c∧mul (suf x k) b c=mul (suf x k) a b∧zUJ x (fv k a) (fv k b)=iG (fv k c):=by
 have ok:=h.okAt hk;have G:=zHZ h hk hc;obtain⟨w,hw,hm,h1⟩:=zMr h hk hc hb;have bZ:=xH ok ha hb;refine⟨mul (suf x k) w (mul (suf x k) a b),xH ok hw bZ,?_,?_⟩
 ·rw[←G.assoc hb hw bZ,hm,G.onel bZ]
 ·unfold zUJ
  rw[h1,bs,zDM h hk hc ha hb,bs,zDM h hk hc hw bZ,bs]
end
theorem zEk{a b:List Int}(h:a.length≤1000000):zLl a b=iG (a==b):=
 zJA (t:=fun u v=>iG (u==v)) (body:=zUG a b) rfl (fun _=>rfl) (by omega) fun _ _ _ _=>rfl
theorem zQP{a b:List Int}(h:a.length≤1000000):zLk a b=iG (a==b):=zEk h
end Go.Pl

namespace Go.Pl
open Go Go.Ab Go.Wk Go.Pc
theorem zMs{ρ:Type}{body:Int→Option (Int⊕(Unit⊕ρ))}(n i0:Nat)(hn:i0≤n)(P:Nat→Prop)(B:ρ→Prop)
  (h:∀i,i0≤i→i<n→(∀j,i0≤j→j<i→P j)→(body (i:Int)=iG (.inl ((i+1:Nat):Int))∧P i)∨(∃r,body (i:Int)=iG (.inr (.inr r))∧B r∧ ¬P i))
  (he:body (n:Int)=iG (.inr (.inl ()))):
  (zI body (i0:Int)=iG (.inl ())∧ ∀j,i0≤j→j<n→P j)∨ ∃r i,i0≤i∧i<n∧zI body (i0:Int)=iG (.inr r)∧B r∧ ¬P i:=by
 have key:∀k i,i0≤i→i+k=n→(∀j,i0≤j→j<i→P j)→(zI body (i:Int)=iG (.inl ())∧ ∀j,i0≤j→j<n→P j)∨ ∃r q,i0≤q∧q<n∧zI body (i:Int)=iG (.inr r)∧B r∧ ¬P q:=by
  intro k
  induction k with
  |zero=>
   intro i hi hk hp;obtain rfl:i=n:=by omega
   grind[xK]
  |succ k ih=>
   intro i hi hk hp;rcases h i hi (by omega) hp with⟨h1,h2⟩|⟨r,h1,h2,h3⟩
   ·have:=ih (i+1) (by omega) (by omega) (by grind)
    rw[xK,h1];exact this
   ·exact .inr ⟨r,i,hi,by omega,by rw[xK,h1],h2,h3⟩
 exact key (n-i0) i0 (Jh _) (by omega) fun j a b=>by omega
theorem zIc{σ ρ:Type}{body:σ→Option (σ⊕ρ)}{Q:ρ→Prop}(I:σ→Prop)(m:σ→Nat)
  (h:∀s,I s→(∃s',body s=iG (.inl s')∧I s'∧m s'<m s)∨ ∃r,body s=iG (.inr r)∧Q r):∀(k:Nat)(s:σ),m s≤k→I s→ ∃r,zI body s=iG r∧Q r
 |k,s,hk,hs=>by
  rcases h s hs with⟨s',h1,h2,h3⟩|⟨r,h1,h2⟩
  ·cases k with
   |zero=>omega
   |succ k=>
    obtain⟨r,h4,h5⟩:=zIc I m h k s' (by omega) h2
    grind[xK]
  grind[xK]
theorem zZd{k:Nat}{a b:Vec}:(fv k a==fv k b)=iI↔a=b:=by simp
theorem zCR{x:SPr}{v:List Int}{i k:Nat}(h:Exp x.zA v i)(hk:k≤i+1)(hn:k≤x.zA.length):v=fv k (v.drop k)∧V (suf x k) (v.drop k):=by
 have h1:=h.1.1;constructor
 ·apply Ky
  intro j;rw[fv,Kq];simp only[zeros,Jb,Kf,Hi];split
  ·rename_i hj
   have h2:=h.2 j (by omega)
   grind
  grind
 ·refine zZc (x.zA.length-k) k _ (by omega) (by grind) fun j hj=>?_
  have:=h.1.2 (k+j) (by omega)
  grind
structure LC (x:SPr) (k:Nat):Prop where
 c1:∀j,k+1≤j→j<x.zA.length→pw (mul (suf x (k+1))) (zeros (suf x (k+1)).length) ((lvl x k).cs.getD (j-(k+1)) []) (at0 x.zA j).toNat=sig (suf x (k+1)) (lvl x k) ((x.zS.getD j []).drop (k+1))
 c2:∀i,k+1≤i→i<x.zA.length→ ∀j,i+1≤j→j<x.zA.length→
  mul (suf x (k+1)) ((lvl x k).cs.getD (j-(k+1)) []) ((lvl x k).cs.getD (i-(k+1)) [])=mul (suf x (k+1)) ((lvl x k).cs.getD (i-(k+1)) []) (sig (suf x (k+1)) (lvl x k) (((x.zG.getD i []).getD (j-(i+1)) []).drop (k+1)))
 c3:sig (suf x (k+1)) (lvl x k) (lvl x k).w=(lvl x k).w
 c4:∀j,k+1≤j→j<x.zA.length→mul (suf x (k+1)) (lvl x k).w (iter (lvl x k).o.toNat (sig (suf x (k+1)) (lvl x k)) (xM (x.zA.length-(k+1)) (j-(k+1))))=mul (suf x (k+1)) (xM (x.zA.length-(k+1)) (j-(k+1))) (lvl x k).w
section
variable {x:SPr} (h:Pres x) {k:Nat} (hk:k<x.zA.length) (hc:wO (suf x (k+1)))
 include h hk
theorem zAc{j:Nat}(h1:k+1≤j)(h2:j<x.zA.length):ixO x.zG (k:Int)=iG (x.zG.getD k [])∧ixO (x.zG.getD k []) ((j:Int)-(k:Int)-1)=iG (fv (k+1) ((lvl x k).cs.getD (j-(k+1)) []))∧V (suf x (k+1)) ((lvl x k).cs.getD (j-(k+1)) []):=by
 obtain⟨c,c1,c2,c3,c4⟩:=zET h hk (i:=j-(k+1)) (by omega)
 grind
theorem zTf{j:Nat}(h1:k+1≤j)(h2:j<x.zA.length):ixO x.zS (j:Int)=iG (fv (k+1) ((x.zS.getD j []).drop (k+1)))∧V (suf x (k+1)) ((x.zS.getD j []).drop (k+1)):=by
 have t1:=(h.tl j h2).1;have hl:=h.pl
 grind[zCR,yO]
theorem zTg{i j:Nat}(h1:k+1≤i)(h2:i+1≤j)(h3:j<x.zA.length):ixO x.zG (i:Int)=iG (x.zG.getD i [])∧ixO (x.zG.getD i []) ((j:Int)-(i:Int)-1)=iG (fv (k+1) (((x.zG.getD i []).getD (j-(i+1)) []).drop (k+1)))∧V (suf x (k+1)) (((x.zG.getD i []).getD (j-(i+1)) []).drop (k+1)):=by
 obtain⟨_,t2,t3⟩:=h.tl i (by omega)
 grind[zCR,yO]
theorem zZe:ixO x.zS (k:Int)=iG (fv (k+1) (lvl x k).w)∧V (suf x (k+1)) (lvl x k).w:=by have t1:=(h.tl k hk).1;have hl:=h.pl;obtain⟨e1,e2⟩:=zCR (k:=k+1) t1 (by omega) (by omega);exact⟨by rw[yO [] (by omega)];exact congrArg iG e1,e2⟩
theorem zXP{v:Vec}(hv:V (suf x (k+1)) v):V (suf x (k+1)) (sig (suf x (k+1)) (lvl x k) v):=by
 have ok0:=h.okAt (k:=k) (by omega)
 grind[yG,zCJ]
theorem zJD{j:Nat}(h1:k+1≤j)(h2:j<x.zA.length):zLm (x.zA.length:Int) (j:Int)=iG (fv (k+1) (xM (x.zA.length-(k+1)) (j-(k+1)))):=by
 have h6:=h.os.1;unfold zLm;rw[xC (by omega),bs,vS,Kf,if_pos h2,bs,J8]
 congr 1
 rw[fv,zAz (by omega),←Jf];have e1:zeros (k+1)++zeros (j-(k+1))=zeros j:=by grind[zeros,Jk]
 have e2:J1 x.zA.length (0:Int)=zeros j++0::zeros (x.zA.length-(j+1)):=by simp only[zeros];rw[←Ju,Jk];grind
 grind[zDL]
theorem zQQ{j:Nat}(h1:k+1≤j)(h2:j<x.zA.length):zZH (x.zA.length:Int) (j:Int)=iG (fv (k+1) (xM (x.zA.length-(k+1)) (j-(k+1)))):=zJD h hk h1 h2
 include hc
theorem zA0{v:Vec}(hv:V (suf x (k+1)) v):f_J x k (fv (k+1) v)=iG (fv (k+1) (sig (suf x (k+1)) (lvl x k) v)):=by
 have h6:=h.os.1;have ok:=h.okAt (k:=k+1) (by omega);have ok0:=h.okAt (k:=k) (by omega);rw[yG hk]at ok0;obtain⟨pi,d7⟩:=zEj h.os (x.zA.length-(k+1)) (k+1) v (by omega) hv;have gC:(lvl x k).cs.length=x.zA.length-(k+1):=by rw[ok0.2.2.1,yQ]
 have t2:=(h.tl k hk).2.1;have iu:=h.cl;have hA:∀i,V (suf x (k+1)) (img (mul (suf x (k+1))) ((lvl x k).cs.take i) (v.take i) (zeros (suf x (k+1)).length)):=fun i=>
  qY (xH ok) _ _ (fun c hc=>ok0.2.2.2.1 c (by grind)) (wS ok)
 unfold f_J;rw[zCP h (by omega) hv,xC (by omega),bs,yO [] (by omega),bs,zPN h (k:=k+1) (by omega)];have:=zX (body:=zUF x k (fv (k+1) v) (x.zG.getD k [])) (r:=fv (k+1) (sig (suf x (k+1)) (lvl x k) v))
  (fun i=>(fv (k+1) (img (mul (suf x (k+1))) ((lvl x k).cs.take i) (v.take i) (zeros (suf x (k+1)).length)),(i:Int))) (x.zG.getD k []).length (fun i hi=>by
  have hr:=d7 i (by omega);obtain⟨c,c1,c2,c3,c4⟩:=zET h hk (i:=i) (by omega);unfold zUF;simp only
  rw[yR hi,zK,c2,bs,zC (by omega) (by omega),bs,zC (by omega) (by omega),bs,show(k:Int)+1+(i:Int)=((k+1+i:Nat):Int)from by omega,fv,zMn (by omega),bs];rw[vY (S:=V (suf x (k+1))) (body:=zUE x (zeros (k+1)++c) (at0 v i)) (fun u=>fv (k+1) u) (fun u=>mul (suf x (k+1)) u c) (at0 v i) hr.1 (by grind[xH]) (fun u q hu hq=>by
   unfold zUE;simp only
   rw[iM hq,zK,zIb h (by omega) hc hu c3,bs,zC (by omega) (by omega),bs,cs]) (fun u hu=>by
   unfold zUE;simp) (hA i),bs,zC (by omega) (by omega),bs,cs]
  rw[zB4 _ _ _ _ (by omega) (by omega),c4]) (by
  unfold zUF;simp only
  rw[vE,zM,Jt (by omega),Jt (by omega)];rfl)
 simp only[Ka,img]at this
 grind
theorem zCS{a b:Vec}(ha:V (suf x (k+1)) a):IsB (zLl (fv (k+1) a) (fv (k+1) b)) (a=b):=by
 have _:=hc;have h6:=h.os.1
 grind[zEk,zCP,IsB.of_bool,zZd]
theorem zMt{c:Vec}(pg:V (suf x (k+1)) c){e:Int}(e0:0≤e)(e1:e≤1000):zWO x ((k+1:Nat):Int) (fv (k+1) c) e=iG (fv (k+1) (pw (mul (suf x (k+1))) (zeros (suf x (k+1)).length) c e.toNat)):=by
 have h6:=h.os.1;have ok:=h.okAt (k:=k+1) (by omega);have G:=zHZ h (k:=k+1) (by omega) hc;have hA:=zPM h (k:=k+1) (by omega);have pwV:∀a,V (suf x (k+1)) (pw (mul (suf x (k+1))) (zeros (suf x (k+1)).length) c a):=fun a=>tS G.toMon pg a
 unfold zWO;rw[xC (by omega),bs,zPN h (k:=k+1) (by omega)];obtain⟨r,r1,r2⟩:=zIc (body:=zQz x ((k+1:Nat):Int)) (Q:=fun r=>r=fv (k+1) (pw (mul (suf x (k+1))) (zeros (suf x (k+1)).length) c e.toNat))
  (fun s=> ∃(m a q:Nat),s=((m:Int),fv (k+1) (pw (mul (suf x (k+1))) (zeros (suf x (k+1)).length) c a),fv (k+1) (pw (mul (suf x (k+1))) (zeros (suf x (k+1)).length) c q))∧a+q*m=e.toNat∧m≤1000) (fun s=>s.1.toNat) (fun s ⟨m,a,q,hs,he,hm⟩=>by
   subst hs;unfold zQz;simp only
   by_cases hm0:m=0
   ·grind
   ·left
    have hr:tR (m:Int) 2=iG ((m%2:Nat):Int):=by rfl
    have hq:sH (m:Int) 2=iG ((m/2:Nat):Int):=by
     unfold sH;rw[if_neg (by decide),Int.tdiv_eq_ediv_of_nonneg (by omega)]
     grind[zC]
    have mf:=Lg m 2;have ao:mul (suf x (k+1)) (pw (mul (suf x (k+1))) (zeros (suf x (k+1)).length) c q) (pw (mul (suf x (k+1))) (zeros (suf x (k+1)).length) c q)=pw (mul (suf x (k+1))) (zeros (suf x (k+1)).length) c (q+q):=(zHP G.toMon pg q q).symm;rw[iM (by omega),zK,hr,bs];rcases Nat.mod_two_eq_zero_or_one m with h2|h2
    ·rw[h2,show((((0:Nat):Int))==1)=iJ from rfl,zM,hA _ _ (pwV q) (pwV q),bs,hq,bs,ao]
     refine⟨_,rfl,⟨m/2,a,q+q,rfl,?_,by omega⟩,by omega⟩
     grind
    ·rw[h2,show((((1:Nat):Int))==1)=iI from rfl,zK,hA _ _ (pwV a) (pwV q),bs,hA _ _ (pwV q) (pwV q),bs,hq,bs,ao,←zHP G.toMon pg a q]
     refine⟨_,rfl,⟨m/2,a+q,q+q,rfl,?_,by omega⟩,by omega⟩
     grind) 1000000 (e,fv (k+1) (zeros (suf x (k+1)).length),fv (k+1) c) (by omega) ⟨e.toNat,0,1,by rw[zSV G.toMon pg,show((e.toNat:Nat):Int)=e from by omega];rfl,by omega,by omega⟩
 grind
end
end Go.Pl

namespace Go.Pl
open Go Go.Ab Go.Wk Go.Pc
def yBw(o:Option xL)(P:Prop):Prop:=(o=iG (xL.mk 0 0 0 0)∧P)∨ ∃r,o=iG r∧r.Kind≠0∧ ¬P
theorem kb{a b c d:Int}(h:a≠0):(xL.mk a b c d).Kind≠0:=h
abbrev KB(r:xL):Prop:=r.Kind≠0
theorem zB5{o:Option Bool}{P:Prop}{bad:xL}{i:Nat}{g:Option (Int⊕(Unit⊕xL))}(h:IsB o P)(hi:i<9223372036854775807)(hbad:bad.Kind≠0)
  (hg:g=o.bind fun r=>cond (!r) (iG (.inr (.inr bad))) ((rng ((i:Int)+1)).bind fun v=>iG (.inl v))):(g=iG (.inl ((i+1:Nat):Int))∧P)∨(∃r,g=iG (.inr (.inr r))∧KB r∧ ¬P):=by
 rcases uZ h hi hg with h|⟨h1,h2⟩
 all_goals grind
section
variable {x:SPr} (h:Pres x) {k:Nat} (hk:k<x.zA.length) (hc:wO (suf x (k+1)))
 include h hk hc
theorem zId:yBw (f_o x k) (LC x k):=by
 have h6:=h.os.1;have ok:=h.okAt (k:=k+1) (by omega);have G:=zHZ h (k:=k+1) (by omega) hc;obtain⟨w1,w2⟩:=zZe h hk;have p9:∀v,V (suf x (k+1)) v→V (suf x (k+1)) (sig (suf x (k+1)) (lvl x k) v):=by grind[zXP]
 unfold f_o;rw[zC (by omega) (by omega),bs,cs];rcases zMs (body:=zUK x k) x.zA.length (k+1) (by omega) (fun j=>pw (mul (suf x (k+1))) (zeros (suf x (k+1)).length) ((lvl x k).cs.getD (j-(k+1)) []) (at0 x.zA j).toNat=sig (suf x (k+1)) (lvl x k) ((x.zS.getD j []).drop (k+1))) KB (fun j h1 h2 _=>by
   obtain⟨c1,c2,c3⟩:=zAc h hk h1 h2;obtain⟨p1,p2⟩:=zTf h hk h1 h2;have cv:=(h.os.2 j h2).pos;refine zB5 (zCS h hk hc (tS G.toMon c3 (at0 x.zA j).toNat)) (by omega) (bad:=xL.mk 1 k j 0) (kb (by decide)) ?_;unfold zUK;rw[yR h2,zK,c1,bs,zC (by omega) (by omega),bs,zC (by omega) (by omega),bs,c2,bs,yN h2,bs,zOe h (by omega) hc c3 (by omega) (by omega),bs,p1,bs,zA0 h hk hc p2,bs]) (by
   unfold zUK;simp)with⟨g1,g2⟩|⟨r,j,j1,j2,g1,g2,g3⟩
 rotate_left
 ·rw[g1,bs]
  exact .inr ⟨r,rfl,g2,fun q=>g3 (q.c1 j j1 j2)⟩
 rw[g1,bs];simp only
 rw[bs];rcases zMs (body:=zUM x k) x.zA.length (k+1) (by omega) (fun i=> ∀j,i+1≤j→j<x.zA.length→
   mul (suf x (k+1)) ((lvl x k).cs.getD (j-(k+1)) []) ((lvl x k).cs.getD (i-(k+1)) [])=mul (suf x (k+1)) ((lvl x k).cs.getD (i-(k+1)) []) (sig (suf x (k+1)) (lvl x k) (((x.zG.getD i []).getD (j-(i+1)) []).drop (k+1)))) KB (fun i h1 h2 _=>by
   obtain⟨c1,c2,c3⟩:=zAc h hk h1 h2;unfold zUM;rw[yR h2,zK,zC (by omega) (by omega),bs,cs];rcases zMs (body:=zUL x k i) x.zA.length (i+1) (by omega) (fun j=>mul (suf x (k+1)) ((lvl x k).cs.getD (j-(k+1)) []) ((lvl x k).cs.getD (i-(k+1)) [])=mul (suf x (k+1)) ((lvl x k).cs.getD (i-(k+1)) []) (sig (suf x (k+1)) (lvl x k) (((x.zG.getD i []).getD (j-(i+1)) []).drop (k+1)))) KB (fun j h3 h4 _=>by
     obtain⟨d1,d2,d3⟩:=zAc h hk (j:=j) (by omega) h4;obtain⟨e1,e2,e3⟩:=zTg h hk h1 h3 h4;obtain⟨q,q1,q2,q3⟩:=zCQ h (by omega) hc d3 c3;refine zB5 ((zCS h hk hc (b:=sig (suf x (k+1)) (lvl x k) (((x.zG.getD i []).getD (j-(i+1)) []).drop (k+1))) q1).iff (Q:=mul (suf x (k+1)) ((lvl x k).cs.getD (j-(k+1)) []) ((lvl x k).cs.getD (i-(k+1)) [])=mul (suf x (k+1)) ((lvl x k).cs.getD (i-(k+1)) []) (sig (suf x (k+1)) (lvl x k) (((x.zG.getD i []).getD (j-(i+1)) []).drop (k+1)))) ?_) (by omega) (bad:=xL.mk 2 k i j) (kb (by decide)) ?_
     ·exact⟨by grind,fun e=>G.cancel_l c3 q1 (p9 _ e3) (by rw[q2,e])⟩
     ·unfold zUL
      rw[yR h4,zK,d1,bs,zC (by omega) (by omega),bs,zC (by omega) (by omega),bs,d2,bs,bs,zC (by omega) (by omega),bs,zC (by omega) (by omega),bs,c2,bs,q3,bs,e1,bs,zC (by omega) (by omega),bs,zC (by omega) (by omega),bs,e2,bs,zA0 h hk hc e3,bs]) (by
     unfold zUL;simp)with⟨g1,g2⟩|⟨r,j,j1,j2,g1,g2,g3⟩
   ·grind
   grind) (by
   unfold zUM;simp)with⟨k1,k2⟩|⟨r,j,j1,j2,k1,k2,k3⟩
 rotate_left
 ·rw[k1,bs]
  exact .inr ⟨r,rfl,k2,fun q=>k3 (q.c2 j j1 j2)⟩
 rw[k1,bs];simp only
 rw[w1,bs,zA0 h hk hc w2,bs];rcases zCS h hk hc (b:=(lvl x k).w) (p9 _ w2)with⟨m1,m2⟩|⟨m1,m2⟩
 rotate_left
 ·rw[m1,bs,Kd,zK]
  exact .inr ⟨_,rfl,kb (by decide),fun q=>m2 q.c3⟩
 rw[m1,bs,Jo,zM,bs];rcases zMs (body:=zUO x k (fv (k+1) (lvl x k).w)) x.zA.length (k+1) (by omega) (fun j=>mul (suf x (k+1)) (lvl x k).w (iter (lvl x k).o.toNat (sig (suf x (k+1)) (lvl x k)) (xM (x.zA.length-(k+1)) (j-(k+1))))=mul (suf x (k+1)) (xM (x.zA.length-(k+1)) (j-(k+1))) (lvl x k).w) KB (fun j h1 h2 _=>by
   have hU:=zOd h (k:=k+1) (by omega) hc (i:=j-(k+1)) (by omega);have cv:=(h.os.2 k hk).pos;obtain⟨q,q1,q2,q3⟩:=zCQ h (k:=k+1) (by omega) hc hU w2;have ei:V (suf x (k+1)) (iter (lvl x k).o.toNat (sig (suf x (k+1)) (lvl x k)) (xM (x.zA.length-(k+1)) (j-(k+1)))):=vR p9 _ hU;refine zB5 ((zCS h hk hc (b:=q) ei).iff ⟨by grind,fun e=>G.cancel_l w2 ei q1 (by rw[e,q2])⟩) (by omega) (bad:=xL.mk 4 k j 0) (kb (by decide)) ?_;unfold zUO;rw[yR h2,zK,zJD h hk h1 h2,bs,yN hk,bs];rw[vY (S:=V (suf x (k+1))) (body:=zUN x k (at0 x.zA k)) (fun u=>fv (k+1) u) (sig (suf x (k+1)) (lvl x k)) (at0 x.zA k) (by omega) p9 (fun u i hu hi=>by
    unfold zUN;simp only
    rw[iM hi,zK,zA0 h hk hc hu,bs,zC (by omega) (by omega),bs,cs]) (fun u hu=>by
    unfold zUN;simp) hU,bs,bs,q3,bs]
   rfl) (by
   unfold zUO;simp)with⟨n1,n2⟩|⟨r,j,j1,j2,n1,n2,n3⟩
 ·rw[n1,bs]
  exact .inl ⟨rfl,⟨g2,k2,m2,n2⟩⟩
 ·rw[n1,bs]
  exact .inr ⟨r,rfl,n2,fun q=>n3 (q.c4 j j1 j2)⟩
theorem zOf:yBw (f_p x k) (LC x k):=by
 have h6:=h.os.1;have ok:=h.okAt (k:=k+1) (by omega);have G:=zHZ h (k:=k+1) (by omega) hc;obtain⟨w1,w2⟩:=zZe h hk;have hA:=zPM h (k:=k+1) (by omega);have hI:=zOb h hk;have p9:∀v,V (suf x (k+1)) v→V (suf x (k+1)) (sig (suf x (k+1)) (lvl x k) v):=by grind[zXP]
 have eqB:∀{a b:Vec},V (suf x (k+1)) a→IsB (zLk (fv (k+1) a) (fv (k+1) b)) (a=b):=fun ha=>zCS h hk hc ha
 unfold f_p;rw[zC (by omega) (by omega),bs,cs];rcases zMs (body:=zUr x k) x.zA.length (k+1) (by omega) (fun j=>pw (mul (suf x (k+1))) (zeros (suf x (k+1)).length) ((lvl x k).cs.getD (j-(k+1)) []) (at0 x.zA j).toNat=sig (suf x (k+1)) (lvl x k) ((x.zS.getD j []).drop (k+1))) KB (fun j h1 h2 _=>by
   obtain⟨c1,c2,c3⟩:=zAc h hk h1 h2;obtain⟨p1,p2⟩:=zTf h hk h1 h2;have cv:=(h.os.2 j h2).pos;refine zB5 (eqB (tS G.toMon c3 (at0 x.zA j).toNat)) (by omega) (bad:=xL.mk 1 k j 0) (kb (by decide)) ?_;unfold zUr;rw[yR h2,zK,zC (by omega) (by omega),bs,cs,c1,bs,zC (by omega) (by omega),bs,zC (by omega) (by omega),bs,c2,bs,yN h2,bs,zMt h hk hc c3 (by omega) (by omega),bs,p1,bs,hI _ p2,bs]) (by
   unfold zUr;simp)with⟨g1,g2⟩|⟨r,j,j1,j2,g1,g2,g3⟩
 rotate_left
 ·rw[g1,bs]
  exact .inr ⟨r,rfl,g2,fun q=>g3 (q.c1 j j1 j2)⟩
 rw[g1,bs];simp only
 rw[bs];rcases zMs (body:=zUt x k) x.zA.length (k+1) (by omega) (fun i=> ∀j,i+1≤j→j<x.zA.length→
   mul (suf x (k+1)) ((lvl x k).cs.getD (j-(k+1)) []) ((lvl x k).cs.getD (i-(k+1)) [])=mul (suf x (k+1)) ((lvl x k).cs.getD (i-(k+1)) []) (sig (suf x (k+1)) (lvl x k) (((x.zG.getD i []).getD (j-(i+1)) []).drop (k+1)))) KB (fun i h1 h2 _=>by
   obtain⟨c1,c2,c3⟩:=zAc h hk h1 h2;unfold zUt;rw[yR h2,zK,zC (by omega) (by omega),bs,cs];rcases zMs (body:=zUs x k i) x.zA.length (i+1) (by omega) (fun j=>mul (suf x (k+1)) ((lvl x k).cs.getD (j-(k+1)) []) ((lvl x k).cs.getD (i-(k+1)) [])=mul (suf x (k+1)) ((lvl x k).cs.getD (i-(k+1)) []) (sig (suf x (k+1)) (lvl x k) (((x.zG.getD i []).getD (j-(i+1)) []).drop (k+1)))) KB (fun j h3 h4 _=>by
     obtain⟨d1,d2,d3⟩:=zAc h hk (j:=j) (by omega) h4;obtain⟨e1,e2,e3⟩:=zTg h hk h1 h3 h4;refine zB5 (eqB (xH ok d3 c3)) (by omega) (bad:=xL.mk 2 k i j) (kb (by decide)) ?_;unfold zUs;rw[yR h4,zK,d1,bs,zC (by omega) (by omega),bs,zC (by omega) (by omega),bs,c2,bs,bs,zC (by omega) (by omega),bs,zC (by omega) (by omega),bs,d2,bs,e1,bs,zC (by omega) (by omega),bs,zC (by omega) (by omega),bs,e2,bs,hI _ e3,bs,zC (by omega) (by omega),bs,cs,hA _ _ d3 c3,bs,bs,hA _ _ c3 (p9 _ e3),bs]) (by
     unfold zUs;simp)with⟨g1,g2⟩|⟨r,j,j1,j2,g1,g2,g3⟩
   ·grind
   grind) (by
   unfold zUt;simp)with⟨k1,k2⟩|⟨r,j,j1,j2,k1,k2,k3⟩
 rotate_left
 ·rw[k1,bs]
  exact .inr ⟨r,rfl,k2,fun q=>k3 (q.c2 j j1 j2)⟩
 rw[k1,bs];simp only
 rw[w1,bs,hI _ w2,bs];rcases eqB (b:=(lvl x k).w) (p9 _ w2)with⟨m1,m2⟩|⟨m1,m2⟩
 rotate_left
 ·rw[m1,bs,Kd,zK]
  exact .inr ⟨_,rfl,kb (by decide),fun q=>m2 q.c3⟩
 rw[m1,bs,Jo,zM,bs];rcases zMs (body:=zUv x k (fv (k+1) (lvl x k).w)) x.zA.length (k+1) (by omega) (fun j=>mul (suf x (k+1)) (lvl x k).w (iter (lvl x k).o.toNat (sig (suf x (k+1)) (lvl x k)) (xM (x.zA.length-(k+1)) (j-(k+1))))=mul (suf x (k+1)) (xM (x.zA.length-(k+1)) (j-(k+1))) (lvl x k).w) KB (fun j h1 h2 _=>by
   have hU:=zOd h (k:=k+1) (by omega) hc (i:=j-(k+1)) (by omega);have cv:=(h.os.2 k hk).pos;have ei:V (suf x (k+1)) (iter (lvl x k).o.toNat (sig (suf x (k+1)) (lvl x k)) (xM (x.zA.length-(k+1)) (j-(k+1)))):=vR p9 _ hU;refine zB5 (eqB (xH ok w2 ei)) (by omega) (bad:=xL.mk 4 k j 0) (kb (by decide)) ?_;unfold zUv;rw[yR h2,zK,zQQ h hk h1 h2,bs];rw[vY (S:=V (suf x (k+1))) (body:=zUu x k) (fun u=>fv (k+1) u) (sig (suf x (k+1)) (lvl x k)) (at0 x.zA k) (by omega) p9 (fun u i hu hi=>by
    unfold zUu;simp only
    rw[yN hk,bs,iM hi,zK,hI _ hu,bs,zC (by omega) (by omega),bs,cs]) (fun u hu=>by
    unfold zUu;simp only
    rw[yN hk,bs,iL (by omega),zM]) hU,bs,zC (by omega) (by omega),bs,cs]
   have ho:(lvl x k).o=at0 x.zA k:=rfl;rw[←ho,hA _ _ w2 ei,bs,bs,hA _ _ hU w2,bs]) (by
   unfold zUv;simp)with⟨n1,n2⟩|⟨r,j,j1,j2,n1,n2,n3⟩
 ·rw[n1,bs]
  exact .inl ⟨rfl,⟨g2,k2,m2,n2⟩⟩
 ·rw[n1,bs]
  exact .inr ⟨r,rfl,n2,fun q=>n3 (q.c4 j j1 j2)⟩
end
end Go.Pl

namespace Go.Pl
open Go Go.Ab Go.Wk Go.Pc
theorem zFY{m:Vec→Vec→Vec}:∀(i:Nat)(cs:List Vec)(w acc:Vec),i≤cs.length→img m cs (zeros i++w) acc=img m (cs.drop i) w acc
 |0,cs,w,acc,_=>rfl
 |i+1,[],w,acc,h=>by simp at h
 |i+1,c::cs,w,acc,h=>by show img m (c::cs) (0::(zeros i++w)) acc=_;simp only[img,Gw,iter,List.drop_succ_cons];exact zFY i cs w acc (by grind)
theorem zIe{x:SPr}{v:List Int}{j k:Nat}(h:Exp x.zA v j)(hj:j<x.zA.length)(hk:k≤j+1):v.drop k=zeros (j+1-k)++v.drop (j+1):=by
 have:=zA4 h hj
 grind[zeros]
section
variable {x:SPr} (h:zDK x) {k:Nat} (hk:k<x.zA.length)
 include h hk
theorem zA5:(lvl x k).cs.length=x.zA.length-(k+1):=by have ok0:=h.okAt (k:=k) (by omega);rw[yG hk]at ok0;rw[ok0.2.2.1,yQ]
theorem zWr{j:Nat}(h1:k+1≤j)(h2:j<x.zA.length):sig (suf x (k+1)) (lvl x k) ((x.zS.getD j []).drop (k+1))=img (mul (suf x (k+1))) ((lvl x k).cs.drop (j-k)) (lvl x j).w (zeros (suf x (k+1)).length):=by have t1:=(h.tl j h2).1;have gC:=zA5 h hk;rw[zIe t1 h2 (by omega),sig,zFY _ _ _ _ (by omega),show j+1-(k+1)=j-k from by omega];rfl
theorem zPO:∀(d i:Nat),k+1+i+d=x.zA.length→(Rel (mul (suf x (k+1))) (zeros (suf x (k+1)).length) (suf x (k+1+i)) ((lvl x k).cs.drop i)↔
  (∀j,k+1+i≤j→j<x.zA.length→pw (mul (suf x (k+1))) (zeros (suf x (k+1)).length) ((lvl x k).cs.getD (j-(k+1)) []) (at0 x.zA j).toNat=sig (suf x (k+1)) (lvl x k) ((x.zS.getD j []).drop (k+1)))∧
  (∀a,k+1+i≤a→a<x.zA.length→ ∀j,a+1≤j→j<x.zA.length→
   mul (suf x (k+1)) ((lvl x k).cs.getD (j-(k+1)) []) ((lvl x k).cs.getD (a-(k+1)) [])=mul (suf x (k+1)) ((lvl x k).cs.getD (a-(k+1)) []) (sig (suf x (k+1)) (lvl x k) (((x.zG.getD a []).getD (j-(a+1)) []).drop (k+1)))))
 |0,i,hi=>by
  have gC:=zA5 h hk;rw[vT (x:=x) (k:=k+1+i) (by omega),Ue (by omega)];simp only[Rel,true_iff]
  grind
 |d+1,i,hi=>by
  have gC:=zA5 h hk;have ih:=zPO d (i+1) (by omega);rw[show k+1+(i+1)=k+1+i+1 from by omega]at ih;have hj:k+1+i<x.zA.length:=by omega
  have hg:(lvl x k).cs.drop i=(lvl x k).cs.getD i []::(lvl x k).cs.drop (i+1):=by rw[Uk (by omega),J2,J3 (by omega)];rfl
  rw[yG hj,hg];simp only[Rel];rw[ih];have e1:=zWr h hk (j:=k+1+i) (by omega) hj;rw[show k+1+i-k=i+1 from by omega]at e1;have ho:(lvl x (k+1+i)).o=at0 x.zA (k+1+i):=rfl;rw[ho,←e1];have e2:∀j,k+1+i+1≤j→j<x.zA.length→ ∀dd,(lvl x (k+1+i)).cs[j-(k+1+i+1)]? =iG dd→img (mul (suf x (k+1))) ((lvl x k).cs.drop (i+1)) dd (zeros (suf x (k+1)).length)=sig (suf x (k+1)) (lvl x k) (((x.zG.getD (k+1+i) []).getD (j-(k+1+i+1)) []).drop (k+1)):=fun j h1 h2 dd hdd=>by
   obtain⟨_,t2,t3⟩:=h.tl (k+1+i) hj;have t:=t3 (j-(k+1+i+1)) (by omega);rw[zIe t hj (by omega),sig,zFY _ _ _ _ (by omega),show k+1+i+1-(k+1)=i+1 from by omega]
   congr 1
   simp only[lvl,K5,Ko]at hdd
   grind
  have e3:∀j,k+1+i+1≤j→j<x.zA.length→((lvl x k).cs.drop (i+1))[j-(k+1+i+1)]? =iG ((lvl x k).cs.getD (j-(k+1)) [])∧ ∃dd,(lvl x (k+1+i)).cs[j-(k+1+i+1)]? =iG dd:=fun j h1 h2=>by
   have iu:=zA5 h hj;refine⟨?_,?_⟩
   ·rw[Hi,show i+1+(j-(k+1+i+1))=j-(k+1)from by omega,J2,J3 (by omega)];rfl
   ·exact⟨_,J3 (by omega)⟩
  constructor
  ·rintro⟨a1,a2,a3,a4⟩
   refine⟨fun j h1 h2=>?_,fun a h1 h2 j h3 h4=>?_⟩
   ·rcases Jj (k+1+i) j with gF|hge
    ·grind
    ·obtain rfl:j=k+1+i:=by omega
     rw[show k+1+i-(k+1)=i from by omega];exact a1
   ·rcases Jj (k+1+i) a with gF|hge
    ·exact a4 a (by omega) h2 j h3 h4
    ·obtain rfl:a=k+1+i:=by omega
     obtain⟨f1,dd,f2⟩:=e3 j (by omega) h4;have:=a2 _ _ _ f1 f2;rw[e2 j (by omega) h4 dd f2]at this;rw[show k+1+i-(k+1)=i from by omega];exact this
  ·rintro⟨a1,a2⟩
   refine⟨?_,fun kk c dd h1 h2=>?_,by grind,by grind⟩
   ·have:=a1 (k+1+i) (by omega) hj
    rw[show k+1+i-(k+1)=i from by omega]at this;exact this
   ·have gF:kk<x.zA.length-(k+1+i+1):=by
     have:=(Js.1 h1).1;rw[K3]at this;omega
    have g:=a2 (k+1+i) (by omega) hj (k+1+i+1+kk) (by omega) (by omega);obtain⟨f1,_⟩:=e3 (k+1+i+1+kk) (by omega) (by omega);rw[show k+1+i+1+kk-(k+1+i+1)=kk from by omega]at f1 g;rw[h1]at f1;have f1:=Lu.inj f1;have g2:=e2 (k+1+i+1+kk) (by omega) (by omega) dd (by rw[show k+1+i+1+kk-(k+1+i+1)=kk from by omega];exact h2);rw[show k+1+i+1+kk-(k+1+i+1)=kk from by omega]at g2;rw[g2,f1];rw[show k+1+i-(k+1)=i from by omega]at g;exact g
theorem zAd:wO (suf x k)↔wO (suf x (k+1))∧LC x k:=by
 have hr:=zPO h hk (x.zA.length-(k+1)) 0 (by omega);have hl:=yQ x (k+1);rw[Ge,Qh]at hr;rw[yG hk];simp only[wO];rw[hr];constructor
 ·rintro⟨a,⟨b1,b2⟩,c,d⟩
  refine⟨a,⟨b1,b2,c,fun j h1 h2=>?_⟩⟩
  grind
 ·rintro⟨a,b⟩
  refine⟨a,⟨b.c1,b.c2⟩,b.c3,fun j hj=>?_⟩;have:=b.c4 (k+1+j) (by omega) (by omega);rw[show k+1+j-(k+1)=j from by omega]at this
  rwa [hl]
end
theorem zA6{x:SPr}(h:wO (suf x 0))(k:Nat):wO (suf x k):=by
 have:=zEU h k
 grind
def sX(x:SPr):Prop:=Pres x∧wO (suf x 0)∧zAb x
theorem jQ{x:SPr}(hl:x.zA.length≤1048576):IsB (zOO x) (sX x):=by
 unfold zOO;rcases zD6 hl with⟨h1,h2⟩|⟨h1,h2⟩
 ·have h6:=h2.os.1
  rw[h1,bs,zK];unfold f_U;obtain⟨r,r1,r2⟩:=uP (body:=zNj x) (Q:=fun r=> ∃s:Nat,r=(s:Int)∧wO (suf x s)∧(s=0∨ ¬wO (suf x (s-1)))) (fun i s=>i≤x.zA.length∧s=((x.zA.length-i:Nat):Int)∧wO (suf x (x.zA.length-i))) x.zA.length (fun i s hi ⟨_,hs,gK⟩=>by
    subst hs;have hk:x.zA.length-i-1<x.zA.length:=by omega
    have e9:x.zA.length-(i+1)=x.zA.length-i-1:=by omega
    rw[e9];have e8:i+1≤x.zA.length:=by omega
    rw[show x.zA.length-i=x.zA.length-i-1+1 from by omega]at gK ⊢
    have pM:=zId h2.toPres hk gK;have cx:=zAd h2.toPres.w hk
    generalize x.zA.length-i-1=k at*
    unfold zNj;rw[iM (by omega),zK,zC (by omega) (by omega),bs,show(((k+1:Nat):Int)-1)=(k:Int)from by omega];rcases pM with⟨g1,g2⟩|⟨r,g1,g2,g3⟩
    ·simp_all
    grind) (fun s ⟨_,hs,gK⟩=>by
    rw[Kj]at hs gK;subst hs;unfold zNj
    grind) (s:=(x.zA.length:Int)) ⟨by omega,by rfl,by rw[Ui,vT (by omega)];simp only[wO]⟩
  obtain⟨s,rfl,gK,hs⟩:=r2;rw[r1,bs,bs];cases s with
  |zero=>exact .inl ⟨rfl,h2.toPres,gK,h2⟩
  |succ s=>
   refine .inr ⟨?_,fun q=>?_⟩
   ·congr 1
   ·rcases hs with hs|hs
    ·omega
    ·exact hs (zA6 q.2.1 _)
 ·rw[h1,bs,zM]
  exact .inr ⟨rfl,fun q=>h2 q.2.2⟩
theorem zIf{x:SPr}(hl:x.zA.length≤1048576):IsB (zUw x) (sX x):=by
 unfold zUw;rcases zD7 hl with⟨h1,h2⟩|⟨h1,h2⟩
 ·have h6:=h2.os.1
  rw[h1,bs,zK];unfold zZJ zZI;rw[zC (by omega) (by omega),bs];obtain⟨r,r1,r2⟩:=uP (body:=zNf x) (Q:=fun r=>(r=.inl ()∧wO (suf x 0))∨ ∃f,r=.inr f∧f.Kind≠0∧ ¬wO (suf x 0)) (fun i s=>i≤x.zA.length∧s=((x.zA.length-i:Nat):Int)-1∧wO (suf x (x.zA.length-i))) x.zA.length (fun i s hi ⟨_,hs,gK⟩=>by
    subst hs;have hk:x.zA.length-i-1<x.zA.length:=by omega
    have e9:x.zA.length-(i+1)=x.zA.length-i-1:=by omega
    rw[e9];have e8:i+1≤x.zA.length:=by omega
    rw[show x.zA.length-i=x.zA.length-i-1+1 from by omega]at gK ⊢
    have pM:=zOf h2.toPres hk gK;have cx:=zAd h2.toPres.w hk
    generalize x.zA.length-i-1=k at*
    unfold zNf;rw[show(((k+1:Nat):Int)-1)=(k:Int)from by omega,iM (by omega),zK];rcases pM with⟨g1,g2⟩|⟨r,g1,g2,g3⟩
    ·left
     rw[g1,bs];simp only
     rw[show((0:Int) != 0)=iJ from rfl,zM,zC (by omega) (by omega),bs]
     grind
    ·right
     rw[g1,bs,show(r.Kind != 0)=iI from by grind,zK];exact⟨_,rfl,.inr ⟨r,rfl,g2,by grind[zA6]⟩⟩) (fun s ⟨_,hs,gK⟩=>by
    rw[Kj]at hs gK;subst hs;unfold zNf
    grind) (s:=(x.zA.length:Int)-1) ⟨by omega,by rfl,by rw[Ui,vT (by omega)];simp only[wO]⟩
  rw[r1,bs];rcases r2 with⟨rfl,q⟩|⟨f,rfl,g1,g2⟩
  ·exact .inl ⟨rfl,h2.toPres,q,h2⟩
  ·simp only
   rw[bs,show(f.Kind==0)=iJ from by grind];exact .inr ⟨rfl,fun q=>g2 q.2.1⟩
 ·rw[h1,bs,zM]
  exact .inr ⟨rfl,fun q=>h2 q.2.2⟩
end Go.Pl

namespace Go.Pl
open Go Go.Ab Go.Wk
abbrev Mx:=List (List Int)
def S:Nat→(Nat→Int)→Int
 |0,_=>0
 |n+1,f=>S n f+f n
theorem xI{n:Nat}{f g:Nat→Int}(h:∀i,i<n→f i=g i):S n f=S n g:=by
 induction n with
 |zero=>rfl
 |succ n ih=>simp only[S];rw[ih fun i hi=>h i (by omega),h n (by omega)]
theorem zAe{p:Int}{f g:Nat→Int}:∀{n:Nat},(∀i,i<n→f i%p=g i%p)→S n f%p=S n g%p
 |0,_=>rfl
 |n+1,h=>by simp only[S];rw[Kh,zAe (n:=n) fun i hi=>h i (by omega),h n (by omega),←Kh]
theorem sY:∀n:Nat,S n (fun _=>0)=0
 |0=>rfl
 |n+1=>by simp only[S,sY n];rfl
theorem zCT{f g:Nat→Int}:∀n:Nat,S n (fun i=>f i+g i)=S n f+S n g
 |0=>rfl
 |n+1=>by simp only[S,zCT n];omega
theorem zMu{f:Nat→Int}(a:Int):∀n:Nat,S n (fun i=>f i*a)=S n f*a
 |0=>by simp[S]
 |n+1=>by simp only[S,zMu a n,Qu]
theorem zCU{f:Nat→Int}(a:Int):∀n:Nat,S n (fun i=>a*f i)=a*S n f
 |0=>by simp[S]
 |n+1=>by simp only[S,zCU a n,Qt]
theorem zIg{f:Nat→Nat→Int}(m:Nat):∀n:Nat,S n (fun i=>S m (fun j=>f i j))=S m (fun j=>S n (fun i=>f i j))
 |0=>by simp only[S];exact(sY m).symm
 |n+1=>by simp only[S];rw[zIg m n,zCT]
theorem jR{f:Nat→Int}{k:Nat}:∀{n:Nat},k<n→(∀i,i<n→i≠k→f i=0)→S n f=f k
 |0,h,_=>by omega
 |n+1,h,hz=>by
  simp only[S]
  by_cases hk:k=n
  ·subst hk
   rw[xI (g:=fun _=>0) fun i hi=>hz i (by omega) (by omega),sY];omega
  ·rw[jR (n:=n) (by omega) fun i hi=>hz i (by omega),hz n (by omega) (by omega)];omega
def mkv(D:Nat)(f:Nat→Int):List Int:=(Jg D).map f
theorem zY(D:Nat)(f:Nat→Int):(mkv D f).length=D:=by simp[mkv]
theorem zDs{D:Nat}{f:Nat→Int}{i:Nat}(h:i<D):(mkv D f)[i]? =iG (f i):=by simp[mkv,h]
theorem yB{D:Nat}{f:Nat→Int}{i:Nat}(h:i<D):at0 (mkv D f) i=f i:=by rw[at0,J2,zDs h];rfl
theorem zZ{D:Nat}{f g:Nat→Int}(h:∀i,i<D→f i=g i):mkv D f=mkv D g:=by unfold mkv;apply Qd;intro i hi;exact h i (by simpa using hi)
theorem qH{D:Nat}{f:Nat→Int}{j:Nat}{a:Int}:(mkv D f).set j a=mkv D (fun i=>if i=j then a else f i):=by
 apply Ky;intro i;rw[Jbm,zY]
 by_cases hi:i<D
 ·by_cases gO:j=i
  ·subst gO;rw[if_pos rfl,if_pos hi,zDs hi,if_pos rfl]
  ·rw[if_neg gO,zDs hi,zDs hi,if_neg fun h=>gO h.symm]
 ·have h1:∀g:Nat→Int,(mkv D g)[i]? =iH:=fun g=>K4 (by rw[zY];omega)
  rw[h1,h1]
  by_cases gO:j=i
  ·subst gO;rw[if_pos rfl,if_neg hi]
  ·rw[if_neg gO]
theorem vC{v:List Int}{D:Nat}(h:v.length=D):v=mkv D (at0 v):=by
 apply Ky;intro i
 by_cases hi:i<D
 ·rw[zDs hi,at0,J2,J3 (by omega)];rfl
 ·rw[K4 (by omega),K4 (by rw[zY];omega)]
theorem uA(D:Nat):J1 D (0:Int)=mkv D (fun _=>0):=by
 apply Ky;intro i
 by_cases hi:i<D
 ·rw[zDs hi];simp[hi]
 ·rw[K4 (by simp;omega),K4 (by rw[zY];omega)]
abbrev ent(B:Mx)(l j:Nat):Int:=at0 (B.getD l []) j
def xY(p:Int)(D:Nat)(r:List Int)(B:Mx):List Int:=mkv D fun j=>S D (fun l=>at0 r l*ent B l j)%p
def PM(p:Int)(D:Nat)(A B:Mx):Mx:=A.map fun r=>xY p D r B
def idM(D:Nat):Mx:=(Jg D).map fun i=>mkv D fun j=>if j=i then 1 else 0
def Row(p:Int)(D:Nat)(r:List Int):Prop:=r.length=D∧ ∀i,i<D→0≤at0 r i∧at0 r i≤p-1
def Mat(p:Int)(D:Nat)(A:Mx):Prop:=A.length=D∧ ∀i,i<D→Row p D (A.getD i [])
theorem zBV{p:Int}{D i:Nat}{A B:Mx}(h:i<A.length):(PM p D A B).getD i []=xY p D (A.getD i []) B:=by simp only[PM,J2,K5,J3 h];rfl
theorem uH{p:Int}{D:Nat}{A B:Mx}:(PM p D A B).length=A.length:=by simp[PM]
theorem zBW{p:Int}{D:Nat}{A B:Mx}(hp:0<p)(hA:A.length=D):Mat p D (PM p D A B):=by refine⟨by rw[uH,hA],fun i hi=>?_⟩;rw[zBV (by omega)];refine⟨by rw[xY,zY],fun j hj=>?_⟩;rw[xY,yB hj];have h1:=L4 (S D fun l=>at0 (A.getD i []) l*ent B l j) (show p≠0 by omega);have h2:=Kk (S D fun l=>at0 (A.getD i []) l*ent B l j) hp;omega
theorem zOg{p:Int}{D i j:Nat}{A B:Mx}(hA:A.length=D)(hi:i<D)(hj:j<D):ent (PM p D A B) i j=S D (fun l=>ent A i l*ent B l j)%p:=by rw[ent,zBV (by omega),xY,yB hj]
theorem zIh{D:Nat}{A B:Mx}(hA:A.length=D)(hB:B.length=D)(h:∀i,i<D→A.getD i []=B.getD i []):A=B:=by
 apply Ky;intro i
 by_cases hi:i<D
 ·have:=h i hi
  rw[J2,J2,J3 (by omega),J3 (by omega)]at this;rw[J3 (by omega),J3 (by omega)];exact congrArg iG this
 ·rw[K4 (by omega),K4 (by omega)]
theorem zMv{p:Int}{D:Nat}{A B C:Mx}(hA:A.length=D)(hB:B.length=D):PM p D (PM p D A B) C=PM p D A (PM p D B C):=by
 refine zIh (by rw[uH,uH,hA]) (by rw[uH,hA]) fun i hi=>?_
 rw[zBV (A:=PM p D A B) (by rw[uH];omega),zBV (A:=A) (B:=PM p D B C) (by omega)];unfold xY;refine zZ fun j hj=>?_
 have e1:S D (fun l=>at0 ((PM p D A B).getD i []) l*ent C l j)%p=S D (fun l=>S D (fun q=>ent A i q*ent B q l)*ent C l j)%p:=zAe fun l hl=>by
  have:=zOg (p:=p) (B:=B) hA hi hl;simp only[ent]at this ⊢
  rw[this,Jw,K7,←Jw]
 have e2:S D (fun l=>at0 (A.getD i []) l*ent (PM p D B C) l j)%p=S D (fun q=>ent A i q*S D (fun l=>ent B q l*ent C l j))%p:=zAe fun q hq=>by rw[zOg hB hq hj,Jw,K7,←Jw]
 rw[e1,e2]
 congr 1
 have e3:(fun l=>S D (fun q=>ent A i q*ent B q l)*ent C l j)=fun l=>S D (fun q=>ent A i q*ent B q l*ent C l j):=funext fun l=>(zMu _ _).symm
 have e4:(fun q=>ent A i q*S D (fun l=>ent B q l*ent C l j))=fun q=>S D (fun l=>ent A i q*ent B q l*ent C l j):=funext fun q=>by rw[←zCU];exact xI fun l _=>by rw[Hy]
 rw[e3,e4];exact zIg D D
theorem uI(D:Nat):(idM D).length=D:=by simp[idM]
theorem zAV{D i:Nat}(h:i<D):(idM D).getD i []=mkv D fun j=>if j=i then 1 else 0:=by simp[idM,J2,h]
theorem tA{p:Int}{D:Nat}(hp:2≤p):Mat p D (idM D):=by refine⟨uI D,fun i hi=>?_⟩;rw[zAV hi];refine⟨zY _ _,fun j hj=>?_⟩;rw[yB hj];split<;>omega
theorem sF{p a:Int}(h:0≤a∧a≤p-1):a%p=a:=Jy h.1 (by omega)
theorem zBX{p:Int}{D:Nat}{B:Mx}(hB:Mat p D B):PM p D (idM D) B=B:=by
 refine zIh (by rw[uH,uI]) hB.1 fun i hi=>?_
 rw[zBV (by rw[uI];exact hi),zAV hi,xY];obtain⟨h1,h2⟩:=hB.2 i hi;refine Eq.trans (zZ fun j hj=>?_) (vC h1).symm;rw[jR (k:=i) hi fun l hl gf=>by rw[yB hl,if_neg gf,Q8],yB hi,if_pos rfl,Jbj];exact sF (h2 j hj)
theorem zB6{p:Int}{D:Nat}{A:Mx}(hA:Mat p D A):PM p D A (idM D)=A:=by
 refine zIh (by rw[uH,hA.1]) hA.1 fun i hi=>?_
 rw[zBV (by rw[hA.1];exact hi),xY];obtain⟨h1,h2⟩:=hA.2 i hi;refine Eq.trans (zZ fun j hj=>?_) (vC h1).symm;rw[jR (k:=j) hj fun l hl gf=>by rw[ent,zAV hl,yB hj,if_neg (fun h=>gf h.symm),Kw],ent,zAV hj,yB hj,if_pos rfl,Lz];exact sF (h2 j hj)
theorem zTh{p:Int}{D i j:Nat}{B:Mx}(hB:Mat p D B)(hi:i<D)(hj:j<D):ixO B (i:Int)=iG (B.getD i [])∧ixO (B.getD i []) (j:Int)=iG (ent B i j)∧(B.getD i []).length=D∧0≤ent B i j∧ent B i j≤p-1:=by obtain⟨h1,h2⟩:=hB.2 i hi;have:=hB.1;exact⟨yO [] (by omega),yN (by omega),h1,h2 j hj⟩
def acc(p:Int)(D i:Nat)(r:List Int)(B:Mx):List Int:=mkv D fun j=>S i (fun l=>at0 r l*ent B l j)%p
def zD8(p:Int)(D i k:Nat)(r:List Int)(B:Mx):List Int:=mkv D fun j=>if j<k then S (i+1) (fun l=>at0 r l*ent B l j)%p else S i (fun l=>at0 r l*ent B l j)%p
theorem zJE{p:Int}{D i:Nat}{r:List Int}{B:Mx}:zD8 p D i 0 r B=acc p D i r B:=zZ fun j _=>by rw[if_neg (by omega)]
theorem zJF{p:Int}{D i:Nat}{r:List Int}{B:Mx}:zD8 p D i D r B=acc p D (i+1) r B:=zZ fun j hj=>by rw[if_pos hj]
theorem zMw{p:Int}{D i k:Nat}{r:List Int}{B:Mx}(hk:k<D){a:Int}(ha:a=(at0 (zD8 p D i k r B) k+at0 r i*ent B i k)%p):(zD8 p D i k r B).set k a=zD8 p D i (k+1) r B:=by
 subst ha;simp only[zD8];rw[qH,yB hk,if_neg (by omega)];refine zZ fun j hj=>?_
 by_cases hjk:j=k
 ·subst hjk
  rw[if_pos rfl,if_pos (by omega)];simp only[S];rw[Jcc]
 ·rw[if_neg hjk]
  by_cases gF:j<k
  ·rw[if_pos gF,if_pos (by omega)]
  ·rw[if_neg gF,if_neg (by omega)]
theorem zMx{p:Int}{D i k j:Nat}{r:List Int}{B:Mx}(hp:0<p)(hj:j<D):0≤at0 (zD8 p D i k r B) j∧at0 (zD8 p D i k r B) j≤p-1:=by
 rw[zD8,yB hj];split
 ·have h1:=L4 (S (i+1) fun l=>at0 r l*ent B l j) (show p≠0 by omega)
  have h2:=Kk (S (i+1) fun l=>at0 r l*ent B l j) hp;omega
 ·have h1:=L4 (S i fun l=>at0 r l*ent B l j) (show p≠0 by omega)
  have h2:=Kk (S i fun l=>at0 r l*ent B l j) hp;omega
theorem zIi{p:Int}{D i k:Nat}{r:List Int}{B:Mx}:(zD8 p D i k r B).length=D:=zY _ _
theorem zPP{p:Int}{D i k j:Nat}{r:List Int}{B:Mx}(hj:j<D):ixO (zD8 p D i k r B) (j:Int)=iG (at0 (zD8 p D i k r B) j):=yN (by rw[zIi];exact hj)
theorem zMy{p:Int}{D:Nat}{r:List Int}{B:Mx}:J1 D (0:Int)=acc p D 0 r B:=by rw[uA];exact zZ fun j _=>by simp[S]
theorem zJG{a b p:Int}(hp:p≤7)(ha:0≤a∧a≤p-1)(hb:0≤b∧b≤p-1):0≤a*b∧a*b≤36:=by have h1:0≤a*b:=Gf ha.1 hb.1;have h2:a*b≤6*6:=Lq (by omega) (by omega) hb.1 (by omega);omega
section
variable {p:Int}{D:Nat} (hp:Prime p) (hD:D≤8)
 include hp hD
theorem zBY{r:List Int}{B:Mx}(hr:Row p D r)(hB:Mat p D B):f_L p r B (D:Int)=iG (xY p D r B):=by
 have h7:=hp.pos;have hBl:=hB.1;have c9:=hr.1;unfold f_L;rw[xC (by omega),bs,zMy (p:=p) (r:=r) (B:=B)];have:=zX (body:=zUz p r B) (r:=acc p D D r B) (fun i=>(acc p D i r B,(i:Int))) D (fun i hi=>by
  have dM:=hr.2 i hi;unfold zUz;simp only
  rw[c9,hBl,yR hi,zK,zK];have inner:=zX (body:=zUy p r B (acc p D i r B,(i:Int))) (r:=acc p D (i+1) r B) (fun k=>(zD8 p D i k r B,(k:Int))) D (fun k hk=>by
   obtain⟨b1,b2,b3,b4⟩:=zTh hB hi hk;have ha:=zMx (p:=p) (i:=i) (k:=k) (r:=r) (B:=B) (by omega) hk;have hm:=zJG (by omega) dM b4;unfold zUy;simp only
   rw[zIi,yR hk,zK,b1,bs,b3,yR hk,zK,zPP hk,bs,yN (by omega),bs,bs,b2,bs,zC (by omega) (by omega),bs,zC (by omega) (by omega),bs];have dP:tR (at0 (zD8 p D i k r B) k+at0 r i*ent B i k) p=iG ((at0 (zD8 p D i k r B) k+at0 r i*ent B i k)%p):=by unfold tR;rw[if_neg (by omega),Kz (by omega)]
   rw[dP,bs,bs,zC (by omega) (by omega),bs,cs,J8,zMw hk rfl]) (by
   unfold zUy;simp only
   rw[zIi,vE,zM,zJF])
  rw[zJE,show((0:Nat):Int)=0 from rfl]at inner;rw[inner,bs,zC (by omega) (by omega),bs,cs]) (by
  unfold zUz;simp only
  rw[c9,vE,zM])
 rw[show((0:Nat):Int)=0 from rfl]at this;rw[this,bs];rfl
theorem zKA{a:Int}(h0:0≤a)(_h1:a≤1000):zLo a p=iG (a%p):=by
 have _:=hD;have h7:=hp.pos;have e1:=L4 a (show p≠0 by omega);have e2:=Kk a (show 0<p by omega);unfold zLo tR;rw[if_neg (by omega),bs,Kz h0,zC (by omega) (by omega),bs,if_neg (by omega),bs,Kz (by omega)]
 congr 1
 rw[Uu,K7]
theorem zFZ{i:Nat}{r:List Int}{B:Mx}(hi:i<D)(hr:Row p D r)(hB:Mat p D B):f_v (acc p D i r B) (B.getD i []) (at0 r i) p=iG (acc p D (i+1) r B):=by
 have h7:=hp.pos;have dM:=hr.2 i hi;unfold f_v;have hl:(acc p D i r B).length=D:=zY _ _;have inner:=zX (body:=zNl (acc p D i r B) (B.getD i []) (at0 r i) p) (r:=acc p D (i+1) r B) (fun k=>(zD8 p D i k r B,(k:Int))) D (fun k hk=>by
  obtain⟨b1,b2,b3,b4⟩:=zTh hB hi hk;have ha:=zMx (p:=p) (i:=i) (k:=k) (r:=r) (B:=B) (by omega) hk;have hm:=zJG (by omega) dM b4;unfold zNl;simp only
  rw[hl,yR hk,zK,zPP hk,bs,b2,bs,zC (by omega) (by omega),bs,zC (by omega) (by omega),bs,zKA hp hD (by omega) (by omega),bs,bs,zC (by omega) (by omega),bs,cs,J8,zMw hk rfl]) (by
  unfold zNl;simp only
  rw[hl,vE,zM,zJF])
 rw[zJE,show((0:Nat):Int)=0 from rfl]at inner;rw[inner,bs]
theorem zB7{r:List Int}{B:Mx}{q:Int}(hr:Row p D r)(hB:Mat p D B)(hq:q=(D:Int)):zUW r (zQ.mk p q B)=iG (xY p D r B):=by
 subst hq;have c9:=hr.1;unfold zUW;simp only
 rw[xC (by omega),bs,zMy (p:=p) (r:=r) (B:=B)];have:=zX (body:=zNm r (zQ.mk p (D:Int) B)) (r:=acc p D D r B) (fun i=>(acc p D i r B,(i:Int))) D (fun i hi=>by
  have hBl:=hB.1;unfold zNm;simp only
  rw[c9,yR hi,zK,yN (by omega),bs,yO [] (by omega),bs,zFZ hp hD hi hr hB,bs,zC (by omega) (by omega),bs,cs]) (by
  unfold zNm;simp only
  rw[c9,vE,zM])
 rw[show((0:Nat):Int)=0 from rfl]at this;rw[this,bs];rfl
theorem zJH{A B:Mx}{i:Nat}(hi:i<A.length):(PM p D A B).take i++[xY p D (A.getD i []) B]=(PM p D A B).take (i+1):=by
 have _:=hp;have _:=hD;rw[Jz (by rw[uH];exact hi)]
 congr 2
 have:=zBV (p:=p) (D:=D) (B:=B) hi;rw[J2,J3 (by rw[uH];exact hi)]at this;exact this.symm
theorem kS{A B:Mx}(hA:Mat p D A)(hB:Mat p D B):zOK p A B (D:Int)=iG (PM p D A B):=by
 have fS:=hA.1;unfold zOK;have:=zX (body:=zNg p A B (D:Int)) (r:=PM p D A B) (fun i=>((PM p D A B).take i,(i:Int))) D (fun i hi=>by
  unfold zNg;simp only
  rw[fS,yR hi,zK,yO [] (by omega),bs,zBY hp hD (hA.2 i hi) hB,bs,yI (by rw[Kc,uH];simp;omega),bs,zC (by omega) (by omega),bs,cs,zJH hp hD (by omega)]) (by
  unfold zNg;simp only
  rw[fS,vE,zM,Jt (by rw[uH];omega)])
 rw[show((0:Nat):Int)=0 from rfl,Ka]at this;rw[this,bs]
theorem zIV{A B:Mx}{q:Int}(hA:Mat p D A)(hB:Mat p D B):zWU (zQ.mk p q A) (zQ.mk p (D:Int) B)=iG (zQ.mk p (D:Int) (PM p D A B)):=by
 have fS:=hA.1;unfold zWU;have:=zX (body:=zNn (zQ.mk p q A) (zQ.mk p (D:Int) B)) (r:=PM p D A B) (fun i=>((PM p D A B).take i,(i:Int))) D (fun i hi=>by
  unfold zNn;simp only
  rw[fS,yR hi,zK,yO [] (by omega),bs,zB7 hp hD (hA.2 i hi) hB rfl,bs,yI (by rw[Kc,uH];simp;omega),bs,zC (by omega) (by omega),bs,cs,zJH hp hD (by omega)]) (by
  unfold zNn;simp only
  rw[fS,vE,zM,Jt (by rw[uH];omega)])
 rw[show((0:Nat):Int)=0 from rfl,Ka]at this;rw[this,bs]
theorem zMz{i:Nat}(_hi:i<D):(J1 D (0:Int)).set i 1=mkv D fun j=>if j=i then 1 else 0:=by have _:=hp;have _:=hD;rw[uA,qH]
theorem zPQ{i:Nat}(hi:i<D):(idM D).take i++[mkv D fun j=>if j=i then 1 else 0]=(idM D).take (i+1):=by
 have _:=hp;have _:=hD;rw[Jz (by rw[uI];exact hi)]
 congr 2
 have:=zAV hi;rw[J2,J3 (by rw[uI];exact hi)]at this;exact this.symm
theorem zEl:f_C (D:Int)=iG (idM D):=by
 unfold f_C;have:=zX (body:=zIJ (D:Int)) (r:=idM D) (fun i=>((idM D).take i,(i:Int))) D (fun i hi=>by
  unfold zIJ;simp only
  rw[yR hi,zK,xC (by omega),bs,vS,Kf,if_pos hi,bs,J8,zMz hp hD hi,yI (by rw[Kc,uI];simp;omega),bs,zC (by omega) (by omega),bs,cs,zPQ hp hD hi]) (by
  unfold zIJ;simp only
  rw[vE,zM,Jt (by rw[uI];omega)])
 rw[show((0:Nat):Int)=0 from rfl,Ka]at this;rw[this,bs]
theorem zBk:f_G p (D:Int)=iG (zQ.mk p (D:Int) (idM D)):=by
 unfold f_G;have:=zX (body:=zLn (D:Int)) (r:=idM D) (fun i=>((idM D).take i,(i:Int))) D (fun i hi=>by
  unfold zLn;simp only
  rw[yR hi,zK,xC (by omega),bs,vS,Kf,if_pos hi,bs,J8,zMz hp hD hi,yI (by rw[Kc,uI];simp;omega),bs,zC (by omega) (by omega),bs,cs,zPQ hp hD hi]) (by
  unfold zLn;simp only
  rw[vE,zM,Jt (by rw[uI];omega)])
 rw[show((0:Nat):Int)=0 from rfl,Ka]at this;rw[this,bs]
end
end Go.Pl

namespace Go.Pl
open Go Go.Ab Go.Wk Go.Pc
def nw:Nat→List Int→List Nat
 |_,[]=>[]
 |o,a::v=>J1 a.toNat o++nw (o+1) v
theorem zDt:∀(o:Nat)(u v:List Int),nw o (u++v)=nw o u++nw (o+u.length) v
 |o,[],v=>by simp[nw]
 |o,a::u,v=>by
  simp only[K6,nw,zDt (o+1) u v,Jf,J7]
  grind
theorem zKB{v:List Int}{i:Nat}(h:i<v.length):nw 0 (v.take (i+1))=nw 0 (v.take i)++J1 (at0 v i).toNat i:=by
 rw[Jz h,zDt,Kc,Ja0 (by omega),Jc];simp only[nw,Je]
 grind
theorem zM0{n:Nat}:∀(o:Nat)(v:List Int),o+v.length≤n→ ∀w∈nw o v,w<n
 |o,[],_,w,h=>by grind[nw]
 |o,a::v,hv,w,h=>by
  simp only[nw,Jd,J7]at h hv;rcases h with h|h
  ·grind
  ·exact zM0 (o+1) v (by omega) w h
theorem zGa:∀(o:Nat)(v:List Int),(∀i,i<v.length→at0 v i≤6)→(nw o v).length≤6*v.length
 |o,[],_=>by simp[nw]
 |o,a::v,h=>by
  have h0:=h 0 (by simp);have:=zGa (o+1) v fun i hi=>by
   have:=h (i+1) (by grind)
   grind
  simp only[at0,Gu]at h0
  grind[nw]
def wM(p:Int)(D:Nat)(A:List Mx)(ws:List Nat)(B:Mx):Mx:=ws.foldl (fun B w=>PM p D B (A.getD w [])) B
theorem zDu{p:Int}{D:Nat}{A:List Mx}{u v:List Nat}{B:Mx}:wM p D A (u++v) B=wM p D A v (wM p D A u B):=by simp[wM,Gx]
theorem zIj{p:Int}{D:Nat}{A:List Mx}{w:Nat}:∀(k:Nat)(B:Mx),wM p D A (J1 k w) B=iter k (fun B=>PM p D B (A.getD w [])) B
 |0,_=>rfl
 |k+1,B=>by rw[Ju];show wM p D A (J1 k w) (PM p D B (A.getD w []))=_;rw[zIj k];rfl
theorem zBZ{p:Int}{D:Nat}{A:List Mx}(hp:0<p):∀(ws:List Nat){B:Mx},Mat p D B→Mat p D (wM p D A ws B)
 | [],_,hB=>hB
 |_w::ws,_,hB=>zBZ hp ws (zBW hp hB.1)
theorem zIk{p:Int}{D:Nat}{A:List Mx}(hp:0<p){C:Mx}(hC:C.length=D):∀(ws:List Nat){B:Mx},Mat p D B→wM p D A ws (PM p D C B)=PM p D C (wM p D A ws B)
 | [],_,_=>rfl
 |w::ws,B,hB=>by show wM p D A ws (PM p D (PM p D C B) (A.getD w []))=PM p D C (wM p D A ws (PM p D B (A.getD w [])));rw[zMv hC hB.1,zIk hp hC ws (zBW hp hB.1)]
structure MOk (n:Nat) (m:zB) (D:Nat):Prop where
 p:Prime m.Prime
 d:m.Dim=(D:Int)
 d1:1≤D
 d3:D≤3
 len:m.zF.length=n
 mat:∀i,i<n→Mat m.Prime D (m.zF.getD i [])
structure zZf (n:Nat) (m:zB) (D:Nat):Prop where
 p:Prime m.Prime
 d:m.Dim=(D:Int)
 d3:D≤30
 len:m.zF.length=n
 mat:∀i,i<n→Mat m.Prime D (m.zF.getD i [])
theorem MOk.x{n D:Nat}{m:zB}(h:MOk n m D):zZf n m D:=⟨h.p,h.d,by have:=h.d3;omega,h.len,h.mat⟩
structure zTi (n:Nat) (m:zB) (D:Nat):Prop where
 p:Prime m.Prime
 d1:1≤D
 d3:D≤200
 len:m.zF.length=n
 mat:∀i,i<n→Mat m.Prime D (m.zF.getD i [])
theorem MOk.b{n D:Nat}{m:zB}(h:MOk n m D):zTi n m D:=⟨h.p,h.d1,by have:=h.d3;omega,h.len,h.mat⟩
section
variable {n D:Nat}{m:zB} (hm:MOk n m D) (hn:n≤9)
 include hm hn
theorem zM1{v:List Int}(hl:v.length=n)(hv:∀i,i<n→0≤at0 v i∧at0 v i≤6):f_Q m v=iG (wM m.Prime D m.zF (nw 0 v) (idM D)):=by
 have h7:=hm.p.pos;have h3:=hm.d3;have gj:=hm.len;unfold f_Q;rw[hm.d,zEl hm.p (by omega),bs];have hI:∀i,Mat m.Prime D (wM m.Prime D m.zF (nw 0 (v.take i)) (idM D)):=by grind[zBZ,tA]
 have:=zX (body:=zU1 m v) (r:=wM m.Prime D m.zF (nw 0 v) (idM D)) (fun i=>(wM m.Prime D m.zF (nw 0 (v.take i)) (idM D),(i:Int))) n (fun i hi=>by
  have hvi:=hv i hi;unfold zU1;simp only
  rw[hl,yR hi,zK];rw[vY (S:=Mat m.Prime D) (body:=zU0 m v (wM m.Prime D m.zF (nw 0 (v.take i)) (idM D),(i:Int))) (fun B=>B) (fun B=>PM m.Prime D B (m.zF.getD i [])) (at0 v i) hvi.1 (fun B hB=>zBW (by omega) hB.1) (fun B q hB hq=>by
   unfold zU0;simp only
   rw[yN (by omega),bs,iM hq,zK,yO [] (by omega),bs,hm.d,kS hm.p (by omega) hB (hm.mat i hi),bs,zC (by omega) (by omega),bs,cs]) (fun B hB=>by
   unfold zU0;simp only
   rw[yN (by omega),bs,iL (by omega),zM]) (hI i),bs,zC (by omega) (by omega),bs,cs]
  grind[zKB,zDu,zIj]) (by
  unfold zU1
  grind)
 rw[show((0:Nat):Int)=0 from rfl,Ka]at this
 grind[nw,wM]
abbrev enW(ws:List Nat):List Int:=ws.map fun(w:Nat)=>(w:Int)+1
theorem zDN{i:Nat}(hi:i<n):zOP m (i:Int)=iG (zQ.mk m.Prime (D:Int) (m.zF.getD i [])):=by have _:=hn;have gj:=hm.len;unfold zOP;rw[yO [] (by omega),bs,hm.d]
theorem zBl{ws:List Nat}(hw:∀w∈ws,w<n)(hl:ws.length≤1000000):f_H m (enW ws)=iG (zQ.mk m.Prime (D:Int) (wM m.Prime D m.zF ws (idM D))):=by
 have h7:=hm.p.pos;have h3:=hm.d3;unfold f_H;rw[hm.d,zBk hm.p (by omega),bs];have hI:∀i,Mat m.Prime D (wM m.Prime D m.zF (ws.take i) (idM D)):=by grind[zBZ,tA]
 have dj:(enW ws).length=ws.length:=by simp
 have:=zX (body:=zUX m (enW ws)) (r:=(m.Prime,(D:Int),wM m.Prime D m.zF ws (idM D))) (fun i=>(m.Prime,(D:Int),wM m.Prime D m.zF (ws.take i) (idM D),(i:Int))) ws.length (fun i hi=>by
  have mK:=hw ws[i] (K8 hi);unfold zUX;simp only
  rw[dj,yR hi,zK,vS,K5,J3 hi];simp only[H3];rw[bs,zC (by omega) (by omega),bs,show((ws[i]:Nat):Int)+1-1=((ws[i]:Nat):Int)from by omega,zDN hm hn mK,bs,zIV hm.p (by omega) (hI i) (hm.mat _ mK),bs,zC (by omega) (by omega),bs,cs,Jz hi,zDu];rfl) (by
  unfold zUX;simp)
 rw[show((0:Nat):Int)=0 from rfl,Ka]at this
 grind[wM]
end
theorem zAm{v:List Int}(hl:v.length≤9)(hv:∀i,i<v.length→0≤at0 v i∧at0 v i≤6):f_y v=iG (enW (nw 0 v)):=by
 unfold f_y;have gj:∀i,(nw 0 (v.take i)).length≤54:=fun i=>by
  have:=zGa 0 (v.take i) (by grind)
  grind
 have:=zX (body:=zUS v) (r:=enW (nw 0 v)) (fun i=>(enW (nw 0 (v.take i)),(i:Int))) v.length (fun i hi=>by
  have hvi:=hv i hi;have hli:=gj i;unfold zUS;simp only
  rw[yR hi,zK,yN hi,bs];have inner:=zX (body:=zUR (enW (nw 0 (v.take i)),(i:Int)) (at0 v i)) (r:=enW (nw 0 (v.take (i+1)))) (fun k=>(enW (nw 0 (v.take i)++J1 k i),(k:Int))) (at0 v i).toNat (fun k hk=>by
   unfold zUR;simp only
   rw[iM (by omega),zK,zC (by omega) (by omega),bs,yI (by grind),bs,zC (by omega) (by omega),bs,cs]
   congr 3
   rw[Lw,←Jf];simp) (by
   unfold zUR;simp only
   rw[iL (by omega),zM,zKB hi])
  rw[show((0:Nat):Int)=0 from rfl,H2,Je]at inner
  grind[zC]) (by
  unfold zUS;simp)
 rw[show((0:Nat):Int)=0 from rfl,Ka]at this;simp only[nw,enW,U2]at this
 grind
theorem zM2{v o:Int}(h:zUQ 1 (IntKind.wrap .u64 o)=iG (0,o)):zUQ (IntKind.wrap .u64 (([v]:List Int).length:Int)) (IntKind.wrap .u64 o)=iG (0,o):=by rw[show IntKind.wrap .u64 (([v]:List Int).length:Int)=1 from by rfl];exact h
theorem zCV{v o:Int}(ho:Prime o):f_j [v] o=iG (J1 o.toNat v):=by
 unfold f_j;rcases ho with rfl|rfl|rfl|rfl
 ·have h:=zX (body:=jU) (r:=[v,v]) (fun i=>match i with|0=>([v,0],1)|_=>([v,v],2)) 1 (fun i hi=>by
   match i,hi with
   |0,_=>rfl) (by rfl)
  rw[zM2 (by rfl),bs];have hl:xG (IntKind.wrap .i64 2)=iG 2:=by rfl
  simp only[hl,bs];rw[show decide ((2:Int)<0)=iJ from rfl,zM,show decide ((0:Int)> 0)=iJ from rfl,zM,show decide ((2:Int)> 9223372036854775807)=iJ from by decide,zM]
  grind[wD]
 ·have h:=zX (body:=jU) (r:=[v,v,v]) (fun i=>match i with|0=>([v,0,0],1)|1=>([v,v,0],2)|_=>([v,v,v],3)) 2 (fun i hi=>by
   match i,hi with
   |0,_=>rfl
   |1,_=>rfl) (by rfl)
  rw[zM2 (by rfl),bs];have hl:xG (IntKind.wrap .i64 3)=iG 3:=by rfl
  simp only[hl,bs];rw[show decide ((3:Int)<0)=iJ from rfl,zM,show decide ((0:Int)> 0)=iJ from rfl,zM,show decide ((3:Int)> 9223372036854775807)=iJ from by decide,zM]
  grind[wD]
 ·have h:=zX (body:=jU) (r:=[v,v,v,v,v]) (fun i=>match i with|0=>([v,0,0,0,0],1)|1=>([v,v,0,0,0],2)|2=>([v,v,v,v,0],4)|_=>([v,v,v,v,v],5)) 3 (fun i hi=>by
   match i,hi with
   |0,_=>rfl
   |1,_=>simp[jU,yD,wD,rng,inR]
   |2,_=>rfl) (by rfl)
  rw[zM2 (by rfl),bs];have hl:xG (IntKind.wrap .i64 5)=iG 5:=by rfl
  simp only[hl,bs];rw[show decide ((5:Int)<0)=iJ from rfl,zM,show decide ((0:Int)> 0)=iJ from rfl,zM,show decide ((5:Int)> 9223372036854775807)=iJ from by decide,zM];have e2:wD (J1 5 (0:Int)) 0 (([v]:List Int).take ((J1 5 (0:Int)).length-0))=[v,0,0,0,0]:=by rfl
  grind
 ·have h:=zX (body:=jU) (r:=[v,v,v,v,v,v,v]) (fun i=>match i with|0=>([v,0,0,0,0,0,0],1)|1=>([v,v,0,0,0,0,0],2)|2=>([v,v,v,v,0,0,0],4)|_=>([v,v,v,v,v,v,v],7)) 3 (fun i hi=>by
   match i,hi with
   |0,_=>rfl
   |1,_=>simp[jU,yD,wD,rng,inR]
   |2,_=>rfl) (by rfl)
  rw[zM2 (by rfl),bs];have hl:xG (IntKind.wrap .i64 7)=iG 7:=by rfl
  simp only[hl,bs];rw[show decide ((7:Int)<0)=iJ from rfl,zM,show decide ((0:Int)> 0)=iJ from rfl,zM,show decide ((7:Int)> 9223372036854775807)=iJ from by decide,zM];have e2:wD (J1 7 (0:Int)) 0 (([v]:List Int).take ((J1 7 (0:Int)).length-0))=[v,0,0,0,0,0,0]:=by rfl
  simp_all
end Go.Pl

namespace Go.Pl
open Go Go.Ab Go.Wk Go.Pc
theorem IsB.b{o:Option Bool}{P:Prop}(h:IsB o P):IsB (o.bind fun r=>iG r) P:=by grind
theorem zG5{p:Int}{D:Nat}{r:List Int}(hp:Prime p)(hD:D≤8):IsB (zUP r p (D:Int)) (Row p D r):=by
 have h7:=hp.pos;unfold zUP
 by_cases h:r.length=D
 ·rw[jO (by omega),zM]
  refine(sW r.length (fun i=>0≤at0 r i∧at0 r i≤p-1) rfl (fun i hi _=>?_) ?_).iff ⟨fun g=>⟨h,by grind⟩,fun g=>by rw[h];exact g.2⟩
  ·refine uZ (zAa _ _ _) (by omega) ?_
   unfold zQ3;rw[yR hi,zK,yN hi,bs,zC (by omega) (by omega),bs]
  ·unfold zQ3
   simp
 ·rw[jP (by omega),zK]
  exact .inr ⟨rfl,fun g=>h g.1⟩
theorem zG6{p:Int}{D:Nat}{r:List Int}(hp:Prime p)(hD:D≤8):IsB (zUx p (D:Int) r) (Row p D r):=by
 have h7:=hp.pos;unfold zUx
 by_cases h:r.length=D
 ·rw[jO (by omega),zM]
  refine(sW r.length (fun i=>0≤at0 r i∧at0 r i≤p-1) rfl (fun i hi _=>?_) ?_).iff ⟨fun g=>⟨h,by grind⟩,fun g=>by rw[h];exact g.2⟩
  ·refine uZ (zCL _ _ _) (by omega) ?_
   unfold zQ0;rw[yR hi,zK,yN hi,bs,zC (by omega) (by omega),bs]
  ·unfold zQ0
   simp
 ·rw[jP (by omega),zK]
  exact .inr ⟨rfl,fun g=>h g.1⟩
theorem zQR{p:Int}{D:Nat}{B:Mx}(hp:Prime p)(hD:D≤8):IsB (zWP p (D:Int) B) (Mat p D B):=by
 unfold zWP
 by_cases h:B.length=D
 ·rw[jO (by omega),zM]
  refine(sW B.length (fun i=>Row p D (B.getD i [])) rfl (fun i hi _=>?_) ?_).iff ⟨fun g=>⟨h,by grind⟩,fun g=>by rw[h];exact g.2⟩
  ·refine uZ (zG6 hp hD) (by omega) ?_
   unfold zQ1;rw[yR hi,zK,yO [] hi,bs]
  ·unfold zQ1
   simp
 ·rw[jP (by omega),zK]
  exact .inr ⟨rfl,fun g=>h g.1⟩
theorem zIW{p:Int}{D:Nat}{B:Mx}(hp:Prime p)(hD:D≤8)(hB:B.length=D):IsB (zWT (zQ.mk p (D:Int) B)) (Mat p D B):=by
 unfold zWT;simp only
 rcases zBT p with⟨h1,_⟩|⟨_,h2⟩
 ·rw[h1,bs,Jo,zM]
  rcases zAa (D:Int) 0 8 with⟨h3,_⟩|⟨_,h4⟩
  ·rw[h3,bs,Jo,zM,iL (by omega),zM]
   refine(sW (body:=zNk (zQ.mk p (D:Int) B)) D (fun i=>Row p D (B.getD i [])) rfl (fun i hi _=>?_) ?_).iff ⟨fun g=>⟨hB,g⟩,fun g=>g.2⟩
   ·refine uZ (zG5 hp hD) (by omega) ?_
    unfold zNk;simp only
    rw[hB,yR hi,zK,yO [] (by omega),bs]
   ·unfold zNk
    grind
  omega
 grind
theorem zEm{A B:Mx}(hA:A.length≤1000)(h:∀r∈A,r.length≤1000):zU3 A B=iG (A==B):=
 zJA (t:=zLk) (body:=zU2 A B) rfl (fun _=>rfl) (by omega) (by grind[zQP])
theorem zDO{A B:Mx}(hA:A.length≤1000)(h:∀r∈A,r.length≤1000):zUZ A B=iG (A==B):=by unfold zUZ;rw[zJA (f:=zZO A B) (t:=zLl) (body:=zUY A B) rfl (fun _=>rfl) (by omega) (by grind[zEk]),bs]
theorem Mat.small{p:Int}{D:Nat}{A:Mx}(h:Mat p D A)(hD:D≤8):A.length≤1000∧ ∀r∈A,r.length≤1000:=by
 refine⟨by have:=h.1;omega,fun r hr=>?_⟩;obtain⟨i,hi,rfl⟩:=Ke.1 hr;have:=h.2 i (by rw[←h.1];exact hi);rw[J2,J3 hi]at this;have:=this.1
 grind
def zCv(x:SPr)(m:zB)(D:Nat):Prop:=
 ∀i,i<x.zA.length→wM m.Prime D m.zF (J1 (at0 x.zA i).toNat i) (idM D)=wM m.Prime D m.zF (nw 0 (x.zS.getD i [])) (idM D)∧
  ∀j,i+1≤j→j<x.zA.length→PM m.Prime D (m.zF.getD j []) (m.zF.getD i [])=PM m.Prime D (m.zF.getD i []) (wM m.Prime D m.zF (nw 0 ((x.zG.getD i []).getD (j-(i+1)) [])) (idM D))
theorem jH{x:SPr}{v:List Int}{i:Nat}(ho:Os x.zA)(h:Exp x.zA v i):v.length=x.zA.length∧ ∀j,j<x.zA.length→0≤at0 v j∧at0 v j≤6:=by have h1:=h.1.1;refine⟨h1,fun j hj=>?_⟩;have:=h.1.2 j (by omega);have:=(ho.2 j hj).pos;omega
section
variable {x:SPr}{m:zB}{D:Nat} (h:Pres x) (hm:MOk x.zA.length m D)
 include h hm
theorem zQS{i:Nat}(hi:i<x.zA.length):(x.zS.getD i []).length=x.zA.length∧ ∀j,j<x.zA.length→0≤at0 (x.zS.getD i []) j∧at0 (x.zS.getD i []) j≤6:=have _:=hm;jH h.os (h.tl i hi).1
theorem zOh{i j:Nat}(hi:i<x.zA.length)(hj:j<(x.zG.getD i []).length):((x.zG.getD i []).getD j []).length=x.zA.length∧ ∀q,q<x.zA.length→0≤at0 ((x.zG.getD i []).getD j []) q∧at0 ((x.zG.getD i []).getD j []) q≤6:=have _:=hm;jH h.os ((h.tl i hi).2.2 j hj)
theorem zQT:IsB ((zI (zU7 x m) 0).bind fun r=>match r with|.inl _=>iG iI|.inr r=>iG r) (zCv x m D):=by
 have h6:=h.os.1;have h7:=hm.p.pos;have h3:=hm.d3;have gj:=hm.len;refine sW x.zA.length (fun i=>wM m.Prime D m.zF (J1 (at0 x.zA i).toNat i) (idM D)=wM m.Prime D m.zF (nw 0 (x.zS.getD i [])) (idM D)∧
  ∀j,i+1≤j→j<x.zA.length→PM m.Prime D (m.zF.getD j []) (m.zF.getD i [])=PM m.Prime D (m.zF.getD i []) (wM m.Prime D m.zF (nw 0 ((x.zG.getD i []).getD (j-(i+1)) [])) (idM D))) rfl (fun i hi _=>?_) ?_
 ·have cv:=(h.os.2 i hi).pos
  have cX:=h.pl;have gC:=h.cl;obtain⟨p1,p2⟩:=zQS h hm hi;have t2:=(h.tl i hi).2.1;have hI:=tA (p:=m.Prime) (D:=D) h7.1;unfold zU7;rw[yR hi,zK,hm.d,zEl hm.p (by omega),bs];rw[vY (S:=Mat m.Prime D) (body:=zU5 x m (i:Int)) (fun B=>B) (fun B=>PM m.Prime D B (m.zF.getD i [])) (at0 x.zA i) (by omega) (fun B hB=>zBW (by omega) hB.1) (fun B q hB hq=>by
   unfold zU5;simp only
   rw[yN hi,bs,iM hq,zK,yO [] (by omega),bs,hm.d,kS hm.p (by omega) hB (hm.mat i hi),bs,zC (by omega) (by omega),bs,cs]) (fun B hB=>by
   unfold zU5;simp only
   rw[yN hi,bs,iL (by omega),zM]) hI,bs,yO [] (by omega),bs,zM1 hm (by omega) p1 p2,bs,←zIj]
  have hs:=(zBZ (p:=m.Prime) (D:=D) (A:=m.zF) (by omega) (J1 (at0 x.zA i).toNat i) hI).small (by omega);rw[zEm hs.1 hs.2,bs]
  by_cases hq:wM m.Prime D m.zF (J1 (at0 x.zA i).toNat i) (idM D)=wM m.Prime D m.zF (nw 0 (x.zS.getD i [])) (idM D)
  ·rw[show(wM m.Prime D m.zF (J1 (at0 x.zA i).toNat i) (idM D)==wM m.Prime D m.zF (nw 0 (x.zS.getD i [])) (idM D))=iI from by grind,Jo,zM,zC (by omega) (by omega),bs,cs]
   rcases chk (body:=zU6 x m (i:Int)) x.zA.length (i+1) (by omega) (fun j=>PM m.Prime D (m.zF.getD j []) (m.zF.getD i [])=PM m.Prime D (m.zF.getD i []) (wM m.Prime D m.zF (nw 0 ((x.zG.getD i []).getD (j-(i+1)) [])) (idM D))) (fun _=>iJ) (fun j h1 h2 _=>by
     obtain⟨c1,c2⟩:=zOh h hm (j:=j-(i+1)) hi (by omega);have hjm:=hm.mat j h2;have him:=hm.mat i hi;have hw:=zBZ (p:=m.Prime) (D:=D) (A:=m.zF) (by omega) (nw 0 ((x.zG.getD i []).getD (j-(i+1)) [])) hI;have hs:=(zBW (p:=m.Prime) (B:=m.zF.getD i []) (by omega) hjm.1).small (by omega);refine uZ (o:=iG (PM m.Prime D (m.zF.getD j []) (m.zF.getD i [])==PM m.Prime D (m.zF.getD i []) (wM m.Prime D m.zF (nw 0 ((x.zG.getD i []).getD (j-(i+1)) [])) (idM D)))) (IsB.of_bool (by simp)) (by omega) ?_;unfold zU6;rw[yR h2,zK,yO (i:=j) [] (by omega),bs,yO (i:=i) [] (by omega),bs,hm.d,kS hm.p (by omega) hjm him,bs,bs,yO (i:=i) [] (by omega),bs,zC (by omega) (by omega),bs,zC (by omega) (by omega),bs,show(j:Int)-(i:Int)-1=((j-(i+1):Nat):Int)from by omega,yO [] (by omega),bs,zM1 hm (by omega) c1 c2,bs,kS hm.p (by omega) him hw,bs,zEm hs.1 hs.2]) (by
     unfold zU6;simp)with⟨g1,g2⟩|⟨j,j1,j2,g1,g2⟩
   ·grind
   ·right
    rw[g1,bs]
    grind
  grind
 ·unfold zU7
  simp
end
def zXQ(x:SPr)(m:zB):Prop:=sX x∧ ∃D,MOk x.zA.length m D∧zCv x m D
theorem zIX{x:SPr}{m:zB}(hl:x.zA.length≤1048576):IsB (zWQ x m) (zXQ x m):=by
 unfold zWQ;rcases zIf hl with⟨h1,h2⟩|⟨h1,h2⟩
 ·have h6:=h2.1.os.1
  rw[h1,bs,zK];unfold f_w;rcases zHY m.Prime with⟨p1,p2⟩|⟨p1,p2⟩
  ·rw[p1,bs,Jo,zM]
   rcases zCL m.Dim 1 3 with⟨d1,d2⟩|⟨d1,d2⟩
   ·rw[d1,bs,Jo,zM]
    obtain⟨D,hD⟩:∃D:Nat,m.Dim=(D:Int):=⟨m.Dim.toNat,by omega⟩
    by_cases gj:m.zF.length=x.zA.length
    ·rw[jO (by omega),zM]
     rcases chk (body:=zU4 x m) x.zA.length 0 (Kg _) (fun i=>Mat m.Prime D (m.zF.getD i [])) (fun _=>iJ) (fun i _ hi _=>by
       refine uZ (zQR p2 (D:=D) (by omega)) (by omega) ?_;unfold zU4;rw[yR hi,zK,yO [] (by omega),bs,hD]) (by
       unfold zU4;simp)with⟨g1,g2⟩|⟨i,_,hi,g1,g2⟩
     ·rw[show((0:Nat):Int)=0 from rfl]at g1
      have hm:MOk x.zA.length m D:=⟨p2,hD,by omega,by omega,gj,by grind⟩;rw[g1,bs];refine(zQT h2.1 hm).b.iff ⟨fun k2=>⟨h2,D,hm,k2⟩,fun⟨_,D',gE,hr⟩=>?_⟩;have:D'=D:=by have:=gE.d;omega
      grind
     ·rw[show((0:Nat):Int)=0 from rfl]at g1
      rw[g1,bs];refine .inr ⟨rfl,fun⟨_,D',gE,_⟩=>g2 ?_⟩;have:D'=D:=by have:=gE.d;omega
      rw[←this];exact gE.mat i hi
    ·rw[jP (by omega),zK]
     exact .inr ⟨rfl,fun⟨_,D',gE,_⟩=>gj gE.len⟩
   ·rw[d1,bs,Kd,zK]
    exact .inr ⟨rfl,fun⟨_,D',gE,_⟩=>d2 (by have:=gE.d;have:=gE.d1;have:=gE.d3;omega)⟩
  ·rw[p1,bs,Kd,zK]
   exact .inr ⟨rfl,fun⟨_,D',gE,_⟩=>p2 gE.p⟩
 ·rw[h1,bs,zM]
  exact .inr ⟨rfl,fun g=>h2 g.1⟩
end Go.Pl

namespace Go.Pl
open Go Go.Ab Go.Wk Go.Pc
abbrev Rl:=List Nat×List Nat
def r1(x:SPr)(i:Nat):Rl:=(J1 (at0 x.zA i).toNat i,nw 0 (x.zS.getD i []))
def r2(x:SPr)(i j:Nat):Rl:=([i+j+1,i],i::nw 0 ((x.zG.getD i []).getD j []))
def R2(x:SPr)(i:Nat):List Rl:=(Jg (x.zG.getD i []).length).map (r2 x i)
def wC(x:SPr):List Rl:=(Jg x.zA.length).map (r1 x)++(Jg x.zA.length).flatMap (R2 x)
abbrev enR(q:Rl):List Int×List Int:=(enW q.1,enW q.2)
section
variable {x:SPr} (h:Pres x)
 include h
theorem zZg{i:Nat}(hi:i<x.zA.length):(R2 x i).length≤9:=by
 have:=(h.tl i hi).2.1;have:=h.os.1
 grind[R2]
theorem zIl:∀i,i≤x.zA.length→((Jg i).flatMap (R2 x)).length≤9*i
 |0,_=>by simp
 |i+1,hi=>by
  have:=zIl i (by omega)
  grind[zZg,Ll]
theorem zWs{k i:Nat}:enW (J1 k i)=J1 k ((i:Int)+1):=by have _:=h;simp
theorem zAG:f_D x=iG ((wC x).map enR):=by
 have h6:=h.os.1;have cX:=h.pl;have gC:=h.cl;unfold f_D;have l1:=zX (body:=zUT x) (r:=((Jg x.zA.length).map (r1 x)).map enR) (fun i=>(((Jg i).map (r1 x)).map enR,(i:Int))) x.zA.length (fun i hi=>by
  obtain⟨p1,p2⟩:=jH h.os (h.tl i hi).1;unfold zUT;simp only
  rw[yR hi,zK,yN hi,bs,zC (by omega) (by omega),bs,zCV (h.os.2 i hi),bs,yO [] (by omega),bs,zAm (by omega) (by rw[p1];exact p2),bs,yI (by simp only[Ji,Le,J7,Jq];omega),bs,bs,cs,Ll];simp only[L8,Jn,U2,r1,enR,zWs h,cs]) (by
  unfold zUT;simp)
 rw[show((0:Nat):Int)=0 from rfl]at l1;simp only[List.range_zero,U2]at l1;rw[l1,bs];have l3:=zX (body:=zUV x) (r:=(wC x).map enR) (fun i=>(((Jg x.zA.length).map (r1 x)++(Jg i).flatMap (R2 x)).map enR,(i:Int))) x.zA.length (fun i hi=>by
  have t2:=(h.tl i hi).2.1;have di:=zIl h i (by omega);unfold zUV;simp only
  rw[yR hi,zK,yO [] (by omega),bs];have l2:=zX (body:=zUU (((Jg x.zA.length).map (r1 x)++(Jg i).flatMap (R2 x)).map enR,(i:Int)) (x.zG.getD i [])) (r:=((Jg x.zA.length).map (r1 x)++(Jg (i+1)).flatMap (R2 x)).map enR)
   (fun j=>(((Jg x.zA.length).map (r1 x)++(Jg i).flatMap (R2 x)++(Jg j).map (r2 x i)).map enR,(j:Int))) (x.zG.getD i []).length (fun j hj=>by
    obtain⟨p1,p2⟩:=jH h.os ((h.tl i hi).2.2 j hj);have pJ:=zGa 0 ((x.zG.getD i []).getD j []) (by grind);unfold zUU;simp only
    rw[yR hj,zK,yO [] hj,bs,zC (by omega) (by omega),bs,zC (by omega) (by omega),bs,zC (by omega) (by omega),bs,zAm (by omega) (by rw[p1];exact p2),bs,yI (by simp only[Ji,J7,Jq];omega),bs,yI (by simp only[Ji,J5,Le,J7,Jq];omega),bs,zC (by omega) (by omega),bs,cs,Ll];have e1:(i:Int)+(j:Int)+2=((i+j+1:Nat):Int)+1:=by omega
    simp only[L8,Jn,U2,r2,enR,enW,Jf,H4,e1];rfl) (by
    unfold zUU;simp only
    rw[vE,zM,Ll,U4]
    grind[R2])
  rw[show((0:Nat):Int)=0 from rfl]at l2
  grind[zC]) (by
  unfold zUV;simp only
  rw[vE,zM];rfl)
 grind
theorem zJI{q:Rl}(hq:q∈wC x):((∀w∈q.1,w<x.zA.length)∧q.1.length≤1000)∧(∀w∈q.2,w<x.zA.length)∧q.2.length≤1000:=by
 have h6:=h.os.1;simp only[wC,Jd,Jl,Kn,Lr,R2]at hq;rcases hq with⟨i,hi,rfl⟩|⟨i,hi,j,hj,rfl⟩
 ·obtain⟨p1,p2⟩:=jH h.os (h.tl i hi).1
  have pJ:=zGa 0 (x.zS.getD i []) (by rw[p1];exact fun i hi=>(p2 i hi).2);have cv:=(h.os.2 i hi).pos;refine⟨⟨fun w hw=>?_,?_⟩,fun w hw=>zM0 0 _ (by omega) w hw,by simp only[r1];omega⟩
  ·have:=K9 hw;omega
  ·simp only[r1,Jb];omega
 ·obtain⟨p1,p2⟩:=jH h.os ((h.tl i hi).2.2 j hj)
  have t2:=(h.tl i hi).2.1;have pJ:=zGa 0 ((x.zG.getD i []).getD j []) (by rw[p1];exact fun i hi=>(p2 i hi).2);refine⟨⟨fun w hw=>?_,by simp[r2]⟩,fun w hw=>?_,by simp only[r2,J7];omega⟩
  ·simp only[r2,J9,Q5,or_false]at hw;omega
  ·simp only[r2,J9]at hw
   rcases hw with rfl|hw
   ·exact hi
   ·exact zM0 0 _ (by omega) w hw
variable {m:zB}{D:Nat} (hm:MOk x.zA.length m D)
 include hm
theorem zM3:(∀q∈wC x,wM m.Prime D m.zF q.1 (idM D)=wM m.Prime D m.zF q.2 (idM D))↔zCv x m D:=by
 have h7:=hm.p.pos;have hI:=tA (p:=m.Prime) (D:=D) h7.1;have key:∀i j,i<x.zA.length→j<x.zA.length→ ∀ws,(wM m.Prime D m.zF [j,i] (idM D)=wM m.Prime D m.zF (i::ws) (idM D)↔PM m.Prime D (m.zF.getD j []) (m.zF.getD i [])=PM m.Prime D (m.zF.getD i []) (wM m.Prime D m.zF ws (idM D))):=fun i j hi hj ws=>by
  have eI:=hm.mat i hi;have mD:=hm.mat j hj;have e1:wM m.Prime D m.zF [j,i] (idM D)=PM m.Prime D (m.zF.getD j []) (m.zF.getD i []):=by show PM _ _ (PM _ _ (idM D) _) _=_;rw[zBX mD]
  have e2:wM m.Prime D m.zF (i::ws) (idM D)=PM m.Prime D (m.zF.getD i []) (wM m.Prime D m.zF ws (idM D)):=by show wM _ _ _ ws (PM _ _ (idM D) _)=_;rw[zBX eI,←zIk (by omega) eI.1 ws hI,zB6 eI]
  rw[e1,e2]
 constructor
 ·intro g i hi
  have t2:=(h.tl i hi).2.1;refine⟨g (r1 x i) (by simp only[wC,Jd,Jl,Kn];grind),fun j h1 h2=>?_⟩;have:=g (r2 x i (j-(i+1))) (by
   simp only[wC,Jd,Lr,Kn,R2,Jl]
   grind)
  simp only[r2]at this;rw[show i+(j-(i+1))+1=j from by omega]at this
  grind
 ·intro g q hq
  simp only[wC,Jd,Jl,Kn,Lr,R2]at hq;rcases hq with⟨i,hi,rfl⟩|⟨i,hi,j,hj,rfl⟩
  ·exact(g i hi).1
  ·have t2:=(h.tl i hi).2.1
   have:=(g i hi).2 (i+j+1) (by omega) (by omega);rw[show i+j+1-(i+1)=j from by omega]at this;exact(key i (i+j+1) hi (by omega) _).2 this
theorem zQU:IsB ((zI (zVb m ((wC x).map enR)) 0).bind fun r=>match r with|.inl _=>iG iI|.inr r=>iG r) (zCv x m D):=by
 have h6:=h.os.1;have h7:=hm.p.pos;have h3:=hm.d3;have hI:=tA (p:=m.Prime) (D:=D) h7.1;have di:=zIl h x.zA.length (Jh _);have c9:(wC x).length≤1000:=by simp only[wC,J5,Ji,Le];omega
 refine(sW (wC x).length (fun k=>wM m.Prime D m.zF ((wC x).getD k ([],[])).1 (idM D)=wM m.Prime D m.zF ((wC x).getD k ([],[])).2 (idM D)) rfl (fun k hk _=>?_) ?_).iff ⟨fun g=>(zM3 h hm).1 fun q hq=>?_,fun g k hk=>(zM3 h hm).2 g _ ?_⟩
 ·have gr:(wC x).getD k ([],[])∈wC x:=by
   rw[J2,J3 hk];exact K8 hk
  obtain⟨⟨g1,g2⟩,g3,g4⟩:=zJI h gr;have hs:=(zBZ (p:=m.Prime) (D:=D) (A:=m.zF) (by omega) ((wC x).getD k ([],[])).1 hI).small (by omega);refine uZ (o:=iG (wM m.Prime D m.zF ((wC x).getD k ([],[])).1 (idM D)==wM m.Prime D m.zF ((wC x).getD k ([],[])).2 (idM D))) (IsB.of_bool (by rw[beq_iff_eq])) (by omega) ?_;unfold zVb;rw[Ji,yR hk,zK,vS,K5,J3 hk];rw[J2,J3 hk]at g1 g2 g3 g4 hs ⊢
  simp only[H3,Qc]at g1 g2 g3 g4 hs ⊢
  rw[bs,zBl hm h6 g1 (Hb g2 (by omega)),bs,zBl hm h6 g3 (Hb g4 (by omega)),bs];simp only
  rw[zDO hs.1 hs.2]
 ·unfold zVb
  rw[Ji,vE,zM]
 ·obtain⟨k,hk,rfl⟩:=Ke.1 hq
  have:=g k hk;rw[J2,J3 hk]at this;exact this
 ·rw[J2,J3 hk];exact K8 hk
end
theorem zIY{x:SPr}{m:zB}(hl:x.zA.length≤1048576)(_hal:m.zF.length≤1048576):IsB (f_K x m) (zXQ x m):=by
 unfold f_K;rcases jQ hl with⟨h1,h2⟩|⟨h1,h2⟩
 ·have h6:=h2.1.os.1
  rw[h1,bs,Jo,zM];rcases zBT m.Prime with⟨p1,p2⟩|⟨p1,p2⟩
  ·rw[p1,bs,Jo,zM]
   rcases zAa m.Dim 1 3 with⟨d1,d2⟩|⟨d1,d2⟩
   ·rw[d1,bs,Jo,zM]
    obtain⟨D,hD⟩:∃D:Nat,m.Dim=(D:Int):=⟨m.Dim.toNat,by omega⟩
    by_cases gj:m.zF.length=x.zA.length
    ·rw[jO (by omega),zM]
     rcases chk (body:=zVa m) m.zF.length 0 (Kg _) (fun i=>Mat m.Prime D (m.zF.getD i [])) (fun _=>iJ) (fun i _ hi _=>by
       unfold zVa;rw[yR hi,zK,yO [] hi,bs,hD]
       by_cases hr:(m.zF.getD i []).length=D
       ·rw[jO (by omega),zM]
        refine uZ (zIW p2 (D:=D) (by omega) hr) (by omega) ?_
        grind[zOP,yO]
       ·rw[jP (by omega),zK]
        exact .inr ⟨rfl,fun g=>hr g.1⟩) (by
       unfold zVa;simp)with⟨g1,g2⟩|⟨i,_,hi,g1,g2⟩
     ·rw[show((0:Nat):Int)=0 from rfl]at g1
      have hm:MOk x.zA.length m D:=⟨p2,hD,by omega,by omega,gj,by grind⟩;rw[g1,bs,zAG h2.1];simp only
      rw[bs];refine(zQU h2.1 hm).iff ⟨fun k2=>⟨h2,D,hm,k2⟩,fun⟨_,D',gE,hr⟩=>?_⟩;have:D'=D:=by have:=gE.d;omega
      grind
     ·rw[show((0:Nat):Int)=0 from rfl]at g1
      rw[g1,bs];refine .inr ⟨rfl,fun⟨_,D',gE,_⟩=>g2 ?_⟩;have:D'=D:=by have:=gE.d;omega
      rw[←this];exact gE.mat i (by omega)
    ·rw[jP (by omega),zK]
     exact .inr ⟨rfl,fun⟨_,D',gE,_⟩=>gj gE.len⟩
   ·rw[d1,bs,Kd,zK]
    exact .inr ⟨rfl,fun⟨_,D',gE,_⟩=>d2 (by have:=gE.d;have:=gE.d1;have:=gE.d3;omega)⟩
  ·rw[p1,bs,Kd,zK]
   exact .inr ⟨rfl,fun⟨_,D',gE,_⟩=>p2 gE.p⟩
 ·rw[h1,bs,Kd,zK]
  exact .inr ⟨rfl,fun g=>h2 g.1⟩
end Go.Pl

namespace Go.Pl
open Go Go.Ab Go.Wk Go.Pc
theorem zGb{xs:List (List Int)}{i:Nat}(h:i<xs.length):(xs.take (i+1)).flatten=(xs.take i).flatten++xs.getD i []:=by grind[Jz]
theorem zKC{xs:List (List Int)}(i:Nat):(xs.take i).flatten.length≤xs.flatten.length:=by grind[Jay]
theorem zQV{k:Nat}(hk:k≤1000000):zVc (k:Int)=iG []:=by
 unfold zVc;rw[iL (by omega),zM,zC (by decide) (by decide),bs,zC (by omega) (by omega),bs]
 by_cases h:(k:Int)-(0-0)> 0
 ·rw[iM h,zK]
  have e:tI ([]:List Int) ((k:Int)-(0-0)) 0=iG (J1 k 0):=by
   unfold tI
   grind
  rw[e,bs];rfl
 grind
theorem sZ{xs:List (List Int)}(hx:xs.length≤1000)(hf:xs.flatten.length≤1000000):f_q xs=iG xs.flatten:=by
 unfold f_q;have l1:=zX (body:=zVd xs) (r:=((xs.flatten.length:Nat):Int)) (fun i=>((((xs.take i).flatten.length:Nat):Int),(i:Int))) xs.length (fun i hi=>by
  have h1:=zGb hi;have h2:=zKC (xs:=xs) (i+1);have h3:=congrArg Jba h1;rw[J5]at h3;unfold zVd;simp only
  rw[yR hi,zK,yO [] hi,bs,zC (by omega) (by omega),bs,iL (by omega),zM,zC (by omega) (by omega),bs,cs,h3]
  congr 3) (by
  unfold zVd;simp)
 rw[show((0:Nat):Int)=0 from rfl]at l1;simp only[Ka,G1,Jq]at l1;rw[show((0:Nat):Int)=0 from rfl]at l1;rw[l1,bs,zQV hf,bs];have l2:=zX (body:=zVe xs) (r:=xs.flatten) (fun i=>((xs.take i).flatten,(i:Int))) xs.length (fun i hi=>by
  have h1:=zGb hi;have h2:=zKC (xs:=xs) (i+1);have h3:=congrArg Jba h1;rw[J5]at h3;unfold zVe;simp only
  rw[yR hi,zK,yO [] hi,bs,yI (by omega),bs,zC (by omega) (by omega),bs,cs,h1]) (by
  unfold zVe;simp)
 grind
theorem zM4{r:List Int}{a b:Nat}(hr:r.length≤1000)(ha:a≤1000)(hb:b≤1000):zVf r (a:Int) (b:Int)=iG (J1 a 0++(r++J1 b 0)):=by grind[zVf,xC,sZ]
end Go.Pl

namespace Go.Pl
open Go Go.Ab Go.Wk Go.Pc
section
variable {p:Int}
def vW(p:Int)(D:Nat)(r:List Int)(k:Int)(s:List Int):List Int:=mkv D fun j=>(at0 r j+k*at0 s j)%p
theorem zEW{D:Nat}{r s:List Int}{k:Int}:(vW p D r k s).length=D:=zY _ _
def zIZ(p:Int)(D i:Nat)(r:List Int)(k:Int)(s:List Int):List Int:=mkv D fun j=>if j<i then(at0 r j+k*at0 s j)%p else at0 r j
theorem zJJ{D:Nat}{r s:List Int}{k:Int}(hr:r.length=D):zIZ p D 0 r k s=r:=by
 conv=>rhs;rw[vC hr]
 exact zZ fun j _=>by rw[if_neg (by omega)]
theorem zJK{D:Nat}{r s:List Int}{k:Int}:zIZ p D D r k s=vW p D r k s:=zZ fun j hj=>by rw[if_pos hj]
theorem zM5{D i:Nat}{r s:List Int}{k a:Int}(ha:a=(at0 r i+k*at0 s i)%p):(zIZ p D i r k s).set i a=zIZ p D (i+1) r k s:=by
 simp only[zIZ];rw[qH];refine zZ fun j _=>?_
 by_cases h:j=i
 ·subst h;rw[if_pos rfl,if_pos (by omega),ha]
 ·rw[if_neg h]
  by_cases h2:j<i
  ·rw[if_pos h2,if_pos (by omega)]
  ·rw[if_neg h2,if_neg (by omega)]
theorem zPR{D i:Nat}{r s:List Int}{k:Int}(hi:i<D):at0 (zIZ p D i r k s) i=at0 r i:=by rw[zIZ,yB hi,if_neg (by omega)]
theorem zEX{D i:Nat}{r s:List Int}{k:Int}:(zIZ p D i r k s).length=D:=zY _ _
end
section
variable {p:Int} (hp:Prime p)
 include hp
theorem zM6{a:Int}(_h0:-1000≤a)(_h1:a≤1000):zLo a p=iG (a%p):=by
 have h7:=hp.pos;have e1:=Jb0 a (show 0<p by omega);have e2:=Jb1 a (show 0<p by omega);have e3:(Jbn a p+p)%p=a%p:=by
  rw[Uu];have:=Jak a p
  conv=>rhs;rw[←this]
  rw[Ls]
 unfold zLo tR;rw[if_neg (by omega),bs,zC (by omega) (by omega),bs,if_neg (by omega),bs,Kz (by omega),e3]
theorem zM7{a:Int}(_h0:-1000≤a)(_h1:a≤1000):zVk a p=iG (a%p):=by
 have h7:=hp.pos;have e1:=Jb0 a (show 0<p by omega);have e2:=Jb1 a (show 0<p by omega);have e3:(Jbn a p+p)%p=a%p:=by
  rw[Uu];have:=Jak a p
  conv=>rhs;rw[←this]
  rw[Ls]
 unfold zVk tR;rw[if_neg (by omega),bs]
 by_cases h:Jbn a p<0
 ·rw[iM h,zK,zC (by omega) (by omega),bs,←e3,Jy (by omega) (by omega)]
 ·rw[iL h,zM,←e3,Uu,Jy (by omega) (by omega)]
theorem zAf{D:Nat}{r s:List Int}{k:Int}:Row p D (vW p D r k s):=by have h7:=hp.pos;refine⟨zY _ _,fun i hi=>?_⟩;have e:at0 (vW p D r k s) i=(at0 r i+k*at0 s i)%p:=yB hi;have e1:=L4 (at0 r i+k*at0 s i) (show p≠0 by omega);have e2:=Kk (at0 r i+k*at0 s i) (show 0<p by omega);rw[e];omega
theorem zCa{k b:Int}(hk:-7≤k∧k≤7)(hb:0≤b∧b≤p-1):-49≤k*b∧k*b≤49:=by
 have h7:=hp.pos;rcases Int.le_total 0 k with h|h
 ·have h1:=Gf h hb.1
  have h2:=Lq hk.2 (show b≤7 by omega) hb.1 (by omega);omega
 ·have h1:=Gf (show 0≤ -k by omega) hb.1
  have h2:=Lq (show -k≤7 by omega) (show b≤7 by omega) hb.1 (by omega);rw[Int.neg_mul]at h1 h2;omega
theorem zB8{D:Nat}{r s:List Int}{k:Int}(hr:Row p D r)(hs:Row p D s)(hk:-7≤k∧k≤7)(hD:D≤1000000):f_v r s k p=iG (vW p D r k s):=by
 have h7:=hp.pos;have:=zX (body:=zNl r s k p) (r:=vW p D r k s) (fun i=>(zIZ p D i r k s,(i:Int))) D (fun i hi=>by
  have a1:=hr.2 i hi;have a2:=hs.2 i hi;have a3:=zCa hp hk a2;unfold zNl;simp only
  rw[hr.1,yR hi,zK,yN (by rw[zEX];exact hi),bs,yN (by rw[hs.1];exact hi),bs,zC (by omega) (by omega),bs,zPR hi,zC (by omega) (by omega),bs,zM6 hp (by omega) (by omega),bs,bs,zC (by omega) (by omega),bs,cs,J8,zM5 rfl]) (by
  unfold zNl;simp only
  rw[hr.1,vE,zM,zJK])
 rw[show((0:Nat):Int)=0 from rfl,zJJ hr.1]at this;unfold f_v;rw[this,bs]
theorem tT{D:Nat}{r s:List Int}{k:Int}(hr:Row p D r)(hs:Row p D s)(hk:-7≤k∧k≤7)(hD:D≤1000000):f_z p r k s=iG (vW p D r k s):=by
 have h7:=hp.pos;have:=zX (body:=zVl p k s) (r:=vW p D r k s) (fun i=>(zIZ p D i r k s,(i:Int))) D (fun i hi=>by
  have a1:=hr.2 i hi;have a2:=hs.2 i hi;have a3:=zCa hp hk a2;unfold zVl;simp only
  rw[zEX,yR hi,zK,hs.1,yR hi,zK,yN (by rw[zEX];exact hi),bs,yN (by rw[hs.1];exact hi),bs,zC (by omega) (by omega),bs,zPR hi,zC (by omega) (by omega),bs,zM7 hp (by omega) (by omega),bs,bs,zC (by omega) (by omega),bs,cs,J8,zM5 rfl]) (by
  unfold zVl;simp only
  rw[zEX,vE,zM,zJK])
 rw[show((0:Nat):Int)=0 from rfl,zJJ hr.1]at this;unfold f_z;rw[qV (by rw[hr.1];omega),bs,this,bs]
end
theorem zEn{p:Int}{D:Nat}{r s:List Int}:vW p D r (p-1) s=vW p D r (-1) s:=zZ fun j _=>by rw[show at0 r j+(p-1)*at0 s j=at0 r j+ -1*at0 s j+p*at0 s j from by rw[Qs];omega,Ls]
theorem zQW{p:Int}{D:Nat}{r s:List Int}(hr:Row p D r)(hs:Row p D s):(∀j,j<D→at0 (vW p D r (-1) s) j=0)↔r=s:=by
 constructor
 ·intro h
  rw[vC hr.1,vC hs.1];refine zZ fun j hj=>?_
  have h1:=h j hj;rw[vW,yB hj]at h1;have a1:=hr.2 j hj;have a2:=hs.2 j hj;obtain⟨c,hc⟩:=Int.dvd_of_emod_eq_zero h1;have:c=0:=by
   rcases Jcb c 0 with h|h|h
   ·have:=H7 (show c≤ -1 by omega) (show 0≤p by omega);omega
   ·exact h
   ·have:=H7 (show 1≤c by omega) (show 0≤p by omega);omega
  rw[this]at hc;omega
 ·rintro rfl j hj
  rw[vW,yB hj,show at0 r j+ -1*at0 r j=0 from by omega];simp
end Go.Pl

namespace Go.Pl
open Go Go.Ab Go.Wk Go.Pc
def VOk(n:Nat)(p:Int)(D:Nat)(vals:Mx):Prop:=vals.length=n∧ ∀i,i<n→Row p D (vals.getD i [])
def stp(m:zB)(D:Nat)(vals:Mx)(v:List Int)(w:Nat):List Int:=vW m.Prime D (xY m.Prime D v (m.zF.getD w [])) 1 (vals.getD w [])
def ev(m:zB)(D:Nat)(vals:Mx)(v:List Int)(ws:List Nat):List Int:=ws.foldl (stp m D vals) v
theorem zJL{m:zB}{D:Nat}{vals:Mx}{v:List Int}{a b:List Nat}:ev m D vals v (a++b)=ev m D vals (ev m D vals v a) b:=by simp[ev,Gx]
theorem zOi{m:zB}{D:Nat}{vals:Mx}{w:Nat}:∀(k:Nat)(v:List Int),ev m D vals v (J1 k w)=iter k (fun v=>stp m D vals v w) v
 |0,_=>rfl
 |k+1,v=>by rw[Ju];show ev m D vals (stp m D vals v w) (J1 k w)=_;rw[zOi k];rfl
abbrev z0(D:Nat):List Int:=J1 D 0
theorem zEo{p:Int}{D:Nat}(hp:0<p):Row p D (z0 D):=by
 refine⟨by simp,fun i hi=>?_⟩
 grind
theorem vA{p:Int}{D:Nat}{r:List Int}{B:Mx}(hp:0<p):Row p D (xY p D r B):=by
 refine⟨zY _ _,fun i hi=>?_⟩;have e1:=L4 (S D (fun l=>at0 r l*ent B l i)) (show p≠0 by omega);have e2:=Kk (S D (fun l=>at0 r l*ent B l i)) hp
 grind[xY,yB]
section
variable {n D:Nat}{m:zB} (hm:MOk n m D) (hn:n≤9) {vals:Mx} (hv:VOk n m.Prime D vals)
 include hm hn hv
theorem zCb{v:List Int}{w:Nat}:Row m.Prime D (stp m D vals v w):=by have _:=hn;have _:=hv;exact zAf hm.p
theorem zEp{v:List Int}(h:Row m.Prime D v):∀ws,Row m.Prime D (ev m D vals v ws):=by
 intro ws
 induction ws generalizing v with
 |nil=>exact h
 |cons w ws ih=>exact ih (zCb hm hn hv)
theorem zB9{v:List Int}{w:Nat}(h:Row m.Prime D v)(hw:w<n):zNw m vals v (w:Int)=iG (stp m D vals v w):=by have _:=hn;have h7:=hm.p.pos;have h3:=hm.d3;unfold zNw;rw[yO [] (by rw[hm.len];exact hw),bs,hm.d,zBY hm.p (by omega) h (hm.mat w hw),bs,yO [] (by rw[hv.1];exact hw),bs,tT hm.p (vA (by omega)) (hv.2 w hw) (by omega) (by omega),bs];rfl
theorem zG7{v x:List Int}(h:Row m.Prime D v)(hl:x.length=n)(hx:∀i,i<n→0≤at0 x i∧at0 x i≤6):f_R m vals v x=iG (ev m D vals v (nw 0 x)):=by
 have:=zX (body:=zVp m vals x) (r:=ev m D vals v (nw 0 x)) (fun i=>(ev m D vals v (nw 0 (x.take i)),(i:Int))) n (fun i hi=>by
  have d5:=hx i hi;unfold zVp;simp only
  rw[hl,yR hi,zK];rw[vY (S:=Row m.Prime D) (body:=zVo m vals x (ev m D vals v (nw 0 (x.take i)),(i:Int))) (fun v=>v) (fun v=>stp m D vals v i) (at0 x i) d5.1 (by grind[zCb]) (fun u q hu hq=>by
   unfold zVo;simp only
   rw[yN (by omega),bs,iM hq,zK,zB9 hm hn hv hu hi,bs,zC (by omega) (by omega),bs,cs]) (fun u hu=>by
   unfold zVo;simp only
   rw[yN (by omega),bs,iL (by omega),zM]) (zEp hm hn hv h _),bs,zC (by omega) (by omega),bs,cs]
  grind[zKB,zJL,zOi]) (by
  unfold zVp
  grind)
 rw[show((0:Nat):Int)=0 from rfl,Ka]at this
 grind[nw,ev,f_R]
theorem zEY{ws:List Nat}(hw:∀w∈ws,w<n)(hl:ws.length≤1000):zVq m vals (enW ws)=iG (ev m D vals (z0 D) ws):=by
 have h7:=hm.p.pos;have h3:=hm.d3;unfold zVq;rw[hm.d,xC (by omega),bs];have hz:=zEo (p:=m.Prime) (D:=D) (by omega);have dj:(enW ws).length=ws.length:=by simp
 have:=zX (body:=zNx m vals (enW ws)) (r:=ev m D vals (z0 D) ws) (fun i=>(ev m D vals (z0 D) (ws.take i),(i:Int))) ws.length (fun i hi=>by
  have mK:=hw ws[i] (K8 hi);have hr:=zEp hm hn hv hz (ws.take i);unfold zNx;simp only
  rw[dj,yR hi,zK,vS,K5,J3 hi];simp only[H3];rw[bs,zC (by omega) (by omega),bs,show((ws[i]:Nat):Int)+1-1=((ws[i]:Nat):Int)from by omega,zDN hm hn mK,bs,zB7 hm.p (by omega) hr (hm.mat _ mK) rfl,bs,bs,yO [] (by rw[hv.1];exact mK),bs,zB8 hm.p (vA (by omega)) (hv.2 _ mK) (by omega) (by omega),bs,zC (by omega) (by omega),bs,cs,Jz hi,zJL];rfl) (by
  unfold zNx;simp)
 rw[show((0:Nat):Int)=0 from rfl,Ka]at this
 grind[ev]
end
theorem zTj{v:List Int}(hl:v.length≤1000000):IsB (f_T v) (∀i,i<v.length→at0 v i=0):=by
 refine sW v.length (fun i=>at0 v i=0) rfl (fun i hi _=>?_) ?_
 ·unfold zNh
  rw[yR hi,zK,yN hi,bs]
  by_cases h:at0 v i=0
  ·rw[show(at0 v i != 0)=iJ from by grind,zM,zC (by omega) (by omega),bs,cs];grind
  grind
 ·unfold zNh
  simp
theorem zQX{v:List Int}(hl:v.length≤1000000):IsB (zZR v) (∀i,i<v.length→at0 v i=0):=zTj hl
section
variable {x:SPr} (h:Pres x) {m:zB}{D:Nat} (hm:MOk x.zA.length m D) {vals:Mx} (hv:VOk x.zA.length m.Prime D vals)
 include h hm hv
abbrev dfc(m:zB)(D:Nat)(vals:Mx)(q:Rl):List Int:=vW m.Prime D (ev m D vals (z0 D) q.1) (-1) (ev m D vals (z0 D) q.2)
theorem zKD:(wC x).length≤100:=by
 have _:=hv;have _:=hm;have h6:=h.os.1;have di:=zIl h x.zA.length (Jh _)
 grind[wC]
theorem zKE:zXe x m vals=iG ((wC x).map (dfc m D vals)):=by
 have h6:=h.os.1;have h7:=hm.p.pos;have h3:=hm.d3;have c9:=zKD h hm hv;have hz:=zEo (p:=m.Prime) (D:=D) (by omega);unfold zXe;rw[zAG h,bs];have:=zX (body:=zNy m vals ((wC x).map enR)) (r:=(wC x).map (dfc m D vals)) (fun i=>(((wC x).map (dfc m D vals)).take i,(i:Int))) (wC x).length (fun i hi=>by
  have gr:(wC x)[i]∈wC x:=K8 hi;obtain⟨⟨g1,g2⟩,g3,g4⟩:=zJI h gr;unfold zNy;simp only
  rw[Ji,yR hi,zK,vS,K5,J3 hi];simp only[H3];rw[bs,zEY hm h6 hv g1 g2,bs,zEY hm h6 hv g3 g4,bs,zB8 hm.p (zEp hm h6 hv hz _) (zEp hm h6 hv hz _) (by omega) (by omega),bs,yI (by simp;omega),bs,zC (by omega) (by omega),bs,cs,Jz (by simpa using hi)];simp) (by
  unfold zNy;simp only
  rw[Ji,vE,zM,Jt (by simp)])
 grind
end
end Go.Pl

namespace Go.Pl
open Go Go.Ab Go.Wk Go.Pc
theorem zQY{m:zB}{D:Nat}{vals:Mx}(hp:Prime m.Prime)(hd:m.Dim=(D:Int))(hD:D≤8)(hl:vals.length≤1048576):IsB (zZS m vals) (∀i,i<vals.length→Row m.Prime D (vals.getD i [])):=by
 refine sW vals.length (fun i=>Row m.Prime D (vals.getD i [])) rfl (fun i hi _=>?_) ?_
 ·refine uZ (zG5 hp hD (r:=vals.getD i [])) (by omega) ?_
  unfold zQ4;rw[yR hi,zK,yO [] hi,bs,hd]
 ·unfold zQ4
  simp
theorem zM8{a b:Int}(h:a=b):(a==b)=iI:=by simp[h]
theorem zM9{a b:Int}(h:a≠b):(a==b)=iJ:=by simp[h]
end Go.Pl

namespace Go.Pl
open Go Go.Ab Go.Wk Go.Pc
theorem IsB.both{o o':Option Bool}{P:Prop}(h:IsB o P)(h':IsB o' P):(o=iG iI∧o'=iG iI∧P)∨(o=iG iJ∧o'=iG iJ∧ ¬P):=by
 rcases h with⟨h1,h2⟩|⟨h1,h2⟩<;>rcases h' with⟨h3,h4⟩|⟨h3,h4⟩
 ·exact .inl ⟨h1,h3,h2⟩
 ·exact absurd h2 h4
 ·exact absurd h4 h2
 ·exact .inr ⟨h1,h3,h2⟩
end Go.Pl

namespace Go.Pl
open Go Go.Ab Go.Wk Go.Pc
def Sp(p:Int)(n:Nat)(R:Mx)(v:List Int):Prop:=∃c:Nat→Int,∀j,j<n→(S R.length fun i=>c i*ent R i j)%p=at0 v j%p
section
variable {p:Int}{n:Nat}{R R':Mx}{u v w:List Int}
theorem qA{i:Nat}(hi:i<R.length):Sp p n R (R.getD i []):=by refine⟨fun l=>if l=i then 1 else 0,fun j _=>?_⟩;rw[jR (k:=i) hi (fun l _ hl=>by simp[hl])];simp
theorem zAH{k:Int}(hv:Sp p n R v)(hw:Sp p n R w)(h:∀j,j<n→at0 u j%p=(at0 v j+k*at0 w j)%p):Sp p n R u:=by
 obtain⟨c,hc⟩:=hv;obtain⟨d,hd⟩:=hw;refine⟨fun i=>c i+k*d i,fun j hj=>?_⟩;have e:(S R.length fun i=>(c i+k*d i)*ent R i j)=(S R.length fun i=>c i*ent R i j)+k*(S R.length fun i=>d i*ent R i j):=by rw[←zCU,←zCT];exact xI fun i _=>by rw[Qu,Hy]
 rw[e,h j hj,Kh,hc j hj,Jw,hd j hj,←Jw,←Kh]
theorem zEZ(h:∀j,j<n→at0 u j%p=0):Sp p n R u:=by refine⟨fun _=>0,fun j hj=>?_⟩;rw[h j hj,xI (g:=fun _=>0) (fun i _=>by simp),sY];simp
theorem zAg(h:∀i,i<R.length→Sp p n R' (R.getD i []))(hv:Sp p n R v):Sp p n R' v:=by
 obtain⟨c,hc⟩:=hv;have key:∀m,m≤R.length→ ∃d:Nat→Int,∀j,j<n→(S R'.length fun i=>d i*ent R' i j)%p=(S m fun i=>c i*ent R i j)%p:=by
  intro m
  induction m with
  |zero=>intro _;exact⟨fun _=>0,fun j _=>by rw[xI (g:=fun _=>0) (fun i _=>by simp),sY];rfl⟩
  |succ m ih=>
   intro hm;obtain⟨d,hd⟩:=ih (by omega);obtain⟨e,he⟩:=h m (by omega);refine⟨fun i=>d i+c m*e i,fun j hj=>?_⟩;have e1:(S R'.length fun i=>(d i+c m*e i)*ent R' i j)=(S R'.length fun i=>d i*ent R' i j)+c m*(S R'.length fun i=>e i*ent R' i j):=by rw[←zCU,←zCT];exact xI fun i _=>by rw[Qu,Hy]
   rw[e1,Kh,hd j hj,Jw,he j hj,←Jw,←Kh];rfl
 obtain⟨d,hd⟩:=key R.length (Jh _);exact⟨d,fun j hj=>by rw[hd j hj,hc j hj]⟩
end
def jS(p:Int)(n:Nat)(R R':Mx):Prop:=(∀i,i<R.length→Sp p n R' (R.getD i []))∧ ∀i,i<R'.length→Sp p n R (R'.getD i [])
theorem jS.refl{p:Int}{n:Nat}{R:Mx}:jS p n R R:=⟨fun _ h=>qA h,fun _ h=>qA h⟩
theorem jS.symm{p:Int}{n:Nat}{R R':Mx}(h:jS p n R R'):jS p n R' R:=⟨h.2,h.1⟩
theorem jS.trans{p:Int}{n:Nat}{R R' R2:Mx}(h:jS p n R R')(h':jS p n R' R2):jS p n R R2:=⟨fun i hi=>zAg h'.1 (h.1 i hi),fun i hi=>zAg h.2 (h'.2 i hi)⟩
theorem jS.iff{p:Int}{n:Nat}{R R':Mx}{v:List Int}(h:jS p n R R'):Sp p n R v↔Sp p n R' v:=⟨fun g=>zAg h.1 g,fun g=>zAg h.2 g⟩
structure Red (p:Int) (n:Nat) (R:Mx) (pv:Nat→Nat):Prop where
 row:∀i,i<R.length→Row p n (R.getD i [])
 lt:∀i,i<R.length→pv i<n
 one:∀i,i<R.length→ent R i (pv i)=1
 low:∀i,i<R.length→ ∀j,j<pv i→ent R i j=0
 off:∀i k,i<R.length→k<R.length→k≠i→ent R k (pv i)=0
 mono:∀i j,i<j→j<R.length→pv i<pv j
section
variable {p:Int} (hp:1<p) {n:Nat}{R R':Mx}{pv pv':Nat→Nat}{v:List Int}
theorem Red.coef(h:Red p n R pv){c:Nat→Int}(hc:∀j,j<n→(S R.length fun i=>c i*ent R i j)%p=at0 v j%p){k:Nat}(hk:k<R.length):c k%p=at0 v (pv k)%p:=by rw[←hc (pv k) (h.lt k hk),jR (k:=k) hk (fun i hi gf=>by rw[h.off k i hk hi gf];simp),h.one k hk];simp
theorem Red.expand(h:Red p n R pv)(hv:Sp p n R v):∀j,j<n→at0 v j%p=(S R.length fun i=>at0 v (pv i)*ent R i j)%p:=by obtain⟨c,hc⟩:=hv;intro j hj;rw[←hc j hj];exact zAe fun i hi=>by rw[Jw,h.coef hc hi,←Jw]
theorem Red.lead(h:Red p n R pv)(hv:Sp p n R v)(gf:∃j,j<n∧at0 v j%p≠0):∃i,i<R.length∧(∀j,j<pv i→at0 v j%p=0)∧at0 v (pv i)%p≠0:=by
 have hx:=h.expand hv;have h1:∃i,i<R.length∧at0 v (pv i)%p≠0:=by
  refine Classical.byContradiction fun hn=>?_
  obtain⟨j,hj,pU⟩:=gf;refine pU ?_;rw[hx j hj,zAe (g:=fun _=>0) (fun i hi=>by
   have:at0 v (pv i)%p=0:=Classical.byContradiction fun h0=>hn ⟨i,hi,h0⟩
   rw[Jw,this];simp),sY];rfl
 obtain⟨i,⟨hi,eZ⟩,eG⟩:=zDG h1;refine⟨i,hi,fun j hj=>?_,eZ⟩;have bV:j<n:=Nat.lt_trans hj (h.lt i hi);rw[hx j bV,zAe (g:=fun _=>0) (fun k hk=>by
  rcases Jj k i with hki|hki
  ·have:at0 v (pv k)%p=0:=Classical.byContradiction fun h0=>eG k hki ⟨hk,h0⟩
   rw[Jw,this];simp
  ·have h2:pv i≤pv k:=by
    rcases Jj i k with h3|h3
    ·exact Nat.le_of_lt (h.mono i k h3 hk)
    ·rw[show i=k from by omega];exact Jh _
   rw[h.low k hk j (by omega)];simp),sY];rfl
 include hp
theorem Red.row_lead(h:Red p n R pv){i:Nat}(hi:i<R.length):(∃j,j<n∧at0 (R.getD i []) j%p≠0)∧(∀j,j<pv i→at0 (R.getD i []) j%p=0)∧at0 (R.getD i []) (pv i)%p≠0:=by
 have h1:at0 (R.getD i []) (pv i)%p≠0:=by have:=h.one i hi;simp only[ent]at this;rw[this,Jy (by omega) hp];omega
 refine⟨⟨pv i,h.lt i hi,h1⟩,fun j hj=>?_,h1⟩;have:=h.low i hi j hj;simp only[ent]at this;rw[this];rfl
theorem Red.piv_in(h:Red p n R pv)(h':Red p n R' pv')(hs:∀i,i<R.length→Sp p n R' (R.getD i [])){i:Nat}(hi:i<R.length):∃k,k<R'.length∧pv' k=pv i:=by
 obtain⟨g1,g2,g3⟩:=h.row_lead hp hi;obtain⟨k,hk,g4,g5⟩:=h'.lead (hs i hi) g1;refine⟨k,hk,?_⟩;rcases Hq (pv' k) (pv i)with h1|h1|h1
 ·exact absurd (g2 _ h1) g5
 ·exact h1
 ·exact absurd (g4 _ h1) g3
theorem Red.piv_eq(h:Red p n R pv)(h':Red p n R' pv')(hs:jS p n R R'):∀i,(i<R.length↔i<R'.length)∧(i<R.length→pv i=pv' i):=by
 intro i
 induction i using Nat.strongRecOn with
 |_ i ih=>
  have a:i<R.length→i<R'.length∧pv' i≤pv i:=fun hi=>by
   obtain⟨k,hk,e⟩:=h.piv_in hp h' hs.1 hi;have hki:i≤k:=by
    refine Classical.byContradiction fun hn=>?_
    have h1:=(ih k (by omega)).2 (by omega);have h2:=h.mono k i (by omega) hi;omega
   refine⟨by omega,?_⟩;rcases Jj i k with h3|h3
   ·have:=h'.mono i k h3 hk;omega
   ·have bp:i=k:=by omega
    subst bp;omega
  have b:i<R'.length→i<R.length∧pv i≤pv' i:=fun hi=>by
   obtain⟨k,hk,e⟩:=h'.piv_in hp h hs.2 hi;have hki:i≤k:=by
    refine Classical.byContradiction fun hn=>?_
    have h1:=(ih k (by omega)).2 hk;have h2:=h'.mono k i (by omega) hi;omega
   refine⟨by omega,?_⟩;rcases Jj i k with h3|h3
   ·have:=h.mono i k h3 hk;omega
   ·have bp:i=k:=by omega
    subst bp;omega
  exact⟨⟨fun hi=>(a hi).1,fun hi=>(b hi).1⟩,fun hi=>by have:=(a hi).2;have:=(b (a hi).1).2;omega⟩
theorem Red.unique(h:Red p n R pv)(h':Red p n R' pv')(hs:jS p n R R'):R=R':=by
 have pd:=h.piv_eq hp h' hs;have hl:R.length=R'.length:=by
  rcases Hq R.length R'.length with g|g|g
  ·have:=(pd R.length).1.2 g;omega
  ·exact g
  ·have:=(pd R'.length).1.1 g;omega
 refine zIh (D:=R.length) rfl hl.symm fun i hi=>?_
 have eI:i<R'.length:=by omega
 have r1:=h.row i hi;have r2:=h'.row i eI;rw[vC r1.1,vC r2.1];refine zZ fun j hj=>?_
 have hx:=h'.expand (hs.1 i hi) j hj;rw[xI (g:=fun k=>(if k=i then 1 else 0)*ent R' k j) (fun k hk=>by
  congr 1
  have e:=(pd k).2 (by omega)
  by_cases hki:k=i
  ·subst hki;rw[if_pos rfl,←e];exact h.one k hi
  ·rw[if_neg hki,←e];exact h.off k i (by omega) hi (Ne.symm hki)),jR (k:=i) eI (fun k _ hk=>by simp[hk])]at hx
 simp only[if_true,Jbj,ent]at hx;have a1:=r1.2 j hj;have a2:=r2.2 j hj;rw[Jy a1.1 (by omega),Jy a2.1 (by omega)]at hx;exact hx
end
end Go.Pl

namespace Go.Pl
open Go Go.Ab Go.Wk Go.Pc
def mkR(m:Nat)(F:Nat→List Int):Mx:=(Jg m).map F
theorem sM{m:Nat}{F:Nat→List Int}:(mkR m F).length=m:=by simp[mkR]
theorem kT{m:Nat}{F:Nat→List Int}{i:Nat}(h:i<m):(mkR m F).getD i []=F i:=by simp[mkR,J2,h]
theorem zKF{m:Nat}{F:Nat→List Int}{i:Nat}(h:i<m):ixO (mkR m F) (i:Int)=iG (F i):=by rw[yO [] (by rw[sM];exact h),kT h]
theorem qI{m:Nat}{F G:Nat→List Int}(h:∀i,i<m→F i=G i):mkR m F=mkR m G:=by simp only[mkR];exact Qd fun i hi=>h i (Kn.1 hi)
theorem zZh{R:Mx}{m:Nat}(h:R.length=m):R=mkR m (fun i=>R.getD i []):=zIh (D:=m) h sM fun i hi=>by rw[kT hi]
theorem zGT{m:Nat}{F:Nat→List Int}{i:Nat}{a:List Int}:(mkR m F).set i a=mkR m (fun k=>if k=i then a else F k):=by
 apply Ky;intro k
 by_cases hk:k<m
 ·by_cases h:i=k
  ·subst h;simp[mkR,hk]
  ·rw[Qa h];simp[mkR,hk,Ne.symm h]
 ·rw[K4 (by simp[mkR];omega),K4 (by simp[mkR];omega)]
theorem zFa{m:Nat}{F:Nat→List Int}{i j:Nat}(h:i<m):ent (mkR m F) i j=at0 (F i) j:=by simp only[ent,kT h]
theorem zTk{s:Nat→Int×Int×Int×Int}(n:Nat){r:Int×Int}(h:∀i,i<n→zR4 (s i)=iG (.inl (s (i+1))))(he:zR4 (s n)=iG (.inr r)){p q:Int}(hq:zLo r.2 p=iG q)(h1:r.1=1)(hs:s 0=(p,(s 0).2.1,0,1)):
  f_V (s 0).2.1 p=iG (q,iI):=by
 unfold f_V;rw[←hs,zX s n h he,bs,hq,bs,h1];rfl
def zTl:List (Int×Int×Int×Int)→Nat→Int×Int×Int×Int:=fun l i=>l.getD i (0,0,0,0)
theorem tL(l:List (Int×Int×Int×Int))(n:Nat){r:Int×Int}(h:∀i,i<n→zR4 (zTl l i)=iG (.inl (zTl l (i+1))))(he:zR4 (zTl l n)=iG (.inr r)){p q x:Int}(hq:zLo r.2 p=iG q)(h1:r.1=1)(hs:zTl l 0=(p,x,0,1)):
  f_V x p=iG (q,iI):=by
 have:=zTk (s:=zTl l) n h he hq h1 (by rw[hs]);rw[hs]at this;exact this
theorem lt1{P:Nat→Prop}(h0:P 0):∀i,i<1→P i:=fun i hi=>by rw[show i=0 from by omega];exact h0
theorem lt2{P:Nat→Prop}(h0:P 0)(h1:P 1):∀i,i<2→P i:=fun i hi=>by match i,hi with|0,_=>exact h0|1,_=>exact h1
theorem lt3{P:Nat→Prop}(h0:P 0)(h1:P 1)(h2:P 2):∀i,i<3→P i:=fun i hi=>by match i,hi with|0,_=>exact h0|1,_=>exact h1|2,_=>exact h2
theorem zFb{p x:Int}(hp:Prime p)(h0:1≤x)(h1:x≤p-1):∃r,f_V x p=iG (r,iI)∧0≤r∧r≤p-1∧(x*r)%p=1:=by
 have c:(p=2∧x=1)∨(p=3∧(x=1∨x=2))∨(p=5∧(x=1∨x=2∨x=3∨x=4))∨(p=7∧(x=1∨x=2∨x=3∨x=4∨x=5∨x=6)):=by unfold Prime at hp;omega
 rcases c with⟨rfl,rfl⟩|⟨rfl,rfl|rfl⟩|⟨rfl,rfl|rfl|rfl|rfl⟩|⟨rfl,rfl|rfl|rfl|rfl|rfl|rfl⟩
 ·exact⟨1,tL [(2,1,0,1),(1,0,1,-2)] 1 (lt1 (by decide+kernel)) (r:=(1,1)) (by decide+kernel) (by decide+kernel) rfl rfl,by decide,by decide,by decide⟩
 ·exact⟨1,tL [(3,1,0,1),(1,0,1,-3)] 1 (lt1 (by decide+kernel)) (r:=(1,1)) (by decide+kernel) (by decide+kernel) rfl rfl,by decide,by decide,by decide⟩
 ·exact⟨2,tL [(3,2,0,1),(2,1,1,-1),(1,0,-1,3)] 2 (lt2 (by decide+kernel) (by decide+kernel)) (r:=(1,-1)) (by decide+kernel) (by decide+kernel) rfl rfl,by decide,by decide,by decide⟩
 ·exact⟨1,tL [(5,1,0,1),(1,0,1,-5)] 1 (lt1 (by decide+kernel)) (r:=(1,1)) (by decide+kernel) (by decide+kernel) rfl rfl,by decide,by decide,by decide⟩
 ·exact⟨3,tL [(5,2,0,1),(2,1,1,-2),(1,0,-2,5)] 2 (lt2 (by decide+kernel) (by decide+kernel)) (r:=(1,-2)) (by decide+kernel) (by decide+kernel) rfl rfl,by decide,by decide,by decide⟩
 ·exact⟨2,tL [(5,3,0,1),(3,2,1,-1),(2,1,-1,2),(1,0,2,-5)] 3 (lt3 (by decide+kernel) (by decide+kernel) (by decide+kernel)) (r:=(1,2)) (by decide+kernel) (by decide+kernel) rfl rfl,by decide,by decide,by decide⟩
 ·exact⟨4,tL [(5,4,0,1),(4,1,1,-1),(1,0,-1,5)] 2 (lt2 (by decide+kernel) (by decide+kernel)) (r:=(1,-1)) (by decide+kernel) (by decide+kernel) rfl rfl,by decide,by decide,by decide⟩
 ·exact⟨1,tL [(7,1,0,1),(1,0,1,-7)] 1 (lt1 (by decide+kernel)) (r:=(1,1)) (by decide+kernel) (by decide+kernel) rfl rfl,by decide,by decide,by decide⟩
 ·exact⟨4,tL [(7,2,0,1),(2,1,1,-3),(1,0,-3,7)] 2 (lt2 (by decide+kernel) (by decide+kernel)) (r:=(1,-3)) (by decide+kernel) (by decide+kernel) rfl rfl,by decide,by decide,by decide⟩
 ·exact⟨5,tL [(7,3,0,1),(3,1,1,-2),(1,0,-2,7)] 2 (lt2 (by decide+kernel) (by decide+kernel)) (r:=(1,-2)) (by decide+kernel) (by decide+kernel) rfl rfl,by decide,by decide,by decide⟩
 ·exact⟨2,tL [(7,4,0,1),(4,3,1,-1),(3,1,-1,2),(1,0,2,-7)] 3 (lt3 (by decide+kernel) (by decide+kernel) (by decide+kernel)) (r:=(1,2)) (by decide+kernel) (by decide+kernel) rfl rfl,by decide,by decide,by decide⟩
 ·exact⟨3,tL [(7,5,0,1),(5,2,1,-1),(2,1,-1,3),(1,0,3,-7)] 3 (lt3 (by decide+kernel) (by decide+kernel) (by decide+kernel)) (r:=(1,3)) (by decide+kernel) (by decide+kernel) rfl rfl,by decide,by decide,by decide⟩
 ·exact⟨6,tL [(7,6,0,1),(6,1,1,-1),(1,0,-1,7)] 2 (lt2 (by decide+kernel) (by decide+kernel)) (r:=(1,-1)) (by decide+kernel) (by decide+kernel) rfl rfl,by decide,by decide,by decide⟩
end Go.Pl

namespace Go.Pl
open Go Go.Ab Go.Wk Go.Pc
structure zQZ (p:Int) (n m:Nat) (rows:Mx) (c:Nat) (M:Mx) (d:Nat) (pv:Nat→Nat):Prop where
 len:M.length=m
 row:∀i,i<m→Row p n (M.getD i [])
 dm:d≤m
 lt:∀i,i<d→pv i<c
 one:∀i,i<d→ent M i (pv i)=1
 low:∀i,i<d→ ∀j,j<pv i→ent M i j=0
 off:∀i k,i<d→k<m→k≠i→ent M k (pv i)=0
 mono:∀i j,i<j→j<d→pv i<pv j
 zero:∀k,d≤k→k<m→ ∀j,j<c→ent M k j=0
 sp:jS p n M rows
theorem zCc{p:Int}{n m:Nat}{F:Nat→List Int}{i:Nat}(h:i<m):Sp p n (mkR m F) (F i):=by have:=qA (p:=p) (n:=n) (R:=mkR m F) (i:=i) (by rw[sM];exact h);rw[kT h]at this;exact this
theorem zTm(a e r p:Int):a%p=((a+(0-e)*r)%p+e*r)%p:=by rw[Kh,K7,←Kh,show a+(0-e)*r+e*r=a from by rw[Qs,Q8];omega]
section
variable {p:Int} (hp:Prime p) {n m:Nat}{rows:Mx}{c:Nat}{M:Mx}{d:Nat}{pv:Nat→Nat} (h:zQZ p n m rows c M d pv) (hc:c<n) (hd:d<m)
 include hp h hc hd
theorem zQZ.pivot{t:Nat}(ht:d≤t)(a6:t<m)(gf:ent M t c≠0){q:Int}(hq:(ent M t c*q)%p=1):
  zQZ p n m rows (c+1) (mkR m fun i=>if i=d then mkv n fun j=>(ent M t j*q)%p else vW p n (if i=t then M.getD d []else M.getD i []) (0-at0 (if i=t then M.getD d []else M.getD i []) c) (mkv n fun j=>(ent M t j*q)%p)) (d+1) (fun i=>if i=d then c else pv i):=by
 have h7:=hp.pos;have pr:∀j,j<n→at0 (mkv n fun j=>(ent M t j*q)%p) j=(ent M t j*q)%p:=fun j hj=>yB hj
 have p0:∀j,j<c→(ent M t j*q)%p=0:=fun j hj=>by rw[h.zero t ht a6 j hj];simp
 have prow:Row p n (mkv n fun j=>(ent M t j*q)%p):=⟨zY _ _,fun j hj=>by have e1:=L4 (ent M t j*q) (show p≠0 by omega);have e2:=Kk (ent M t j*q) (show 0<p by omega);rw[pr j hj];omega⟩
 have hG:∀i,i<m→i≠d→Row p n (if i=t then M.getD d []else M.getD i []):=fun i hi _=>by
  split
  ·exact h.row d hd
  ·exact h.row i hi
 have eo:∀i j,i<m→i≠d→j<n→ent (mkR m fun i=>if i=d then mkv n fun j=>(ent M t j*q)%p else vW p n (if i=t then M.getD d []else M.getD i []) (0-at0 (if i=t then M.getD d []else M.getD i []) c) (mkv n fun j=>(ent M t j*q)%p)) i j=(at0 (if i=t then M.getD d []else M.getD i []) j+(0-at0 (if i=t then M.getD d []else M.getD i []) c)*((ent M t j*q)%p))%p:=fun i j hi eF hj=>by rw[zFa hi,if_neg eF,vW,yB hj,pr j hj]
 have el:∀i j,i<m→i≠d→j<c→ent (mkR m fun i=>if i=d then mkv n fun j=>(ent M t j*q)%p else vW p n (if i=t then M.getD d []else M.getD i []) (0-at0 (if i=t then M.getD d []else M.getD i []) c) (mkv n fun j=>(ent M t j*q)%p)) i j=at0 (if i=t then M.getD d []else M.getD i []) j:=fun i j hi eF hj=>by rw[eo i j hi eF (by omega),p0 j hj,Kw,H0];have:=(hG i hi eF).2 j (by omega);exact Jy this.1 (by omega)
 have ed:∀j,j<n→ent (mkR m fun i=>if i=d then mkv n fun j=>(ent M t j*q)%p else vW p n (if i=t then M.getD d []else M.getD i []) (0-at0 (if i=t then M.getD d []else M.getD i []) c) (mkv n fun j=>(ent M t j*q)%p)) d j=(ent M t j*q)%p:=fun j hj=>by rw[zFa hd,if_pos rfl,pr j hj]
 have ec:∀i,i<m→i≠d→ent (mkR m fun i=>if i=d then mkv n fun j=>(ent M t j*q)%p else vW p n (if i=t then M.getD d []else M.getD i []) (0-at0 (if i=t then M.getD d []else M.getD i []) c) (mkv n fun j=>(ent M t j*q)%p)) i c=0:=fun i hi eF=>by rw[eo i c hi eF hc,hq,Lz];rw[show at0 (if i=t then M.getD d []else M.getD i []) c+(0-at0 (if i=t then M.getD d []else M.getD i []) c)=0 from by omega];simp
 have fR:∀i,i<d→(if i=t then M.getD d []else M.getD i [])=M.getD i []:=fun i hi=>by rw[if_neg (by omega)]
 have bJ:∀i,d≤i→i<m→ ∀j,j<c→at0 (if i=t then M.getD d []else M.getD i []) j=0:=fun i hi eZ j hj=>by
  split
  ·exact h.zero d (Jh _) hd j hj
  ·exact h.zero i hi eZ j hj
 refine⟨sM,fun i hi=>?_,by omega,fun i hi=>?_,fun i hi=>?_,fun i hi j hj=>?_,fun i k hi hk eF=>?_,fun i j gO hj=>?_,fun k hk fw j hj=>?_,?_⟩
 ·rw[kT hi]
  split
  ·exact prow
  ·exact zAf hp
 ·by_cases e6:i=d
  ·rw[if_pos e6];omega
  ·rw[if_neg e6];have:=h.lt i (by omega);omega
 ·by_cases e6:i=d
  ·subst e6;rw[if_pos rfl,ed c hc,hq]
  ·have h1:=h.lt i (by omega)
   rw[if_neg e6,el i _ (by omega) e6 h1,fR i (by omega)];exact h.one i (by omega)
 ·by_cases e6:i=d
  ·subst e6
   rw[if_pos rfl]at hj;rw[ed j (by omega),p0 j hj]
  ·rw[if_neg e6]at hj
   have h1:=h.lt i (by omega);rw[el i j (by omega) e6 (by omega),fR i (by omega)];exact h.low i (by omega) j hj
 ·by_cases e6:i=d
  ·subst e6
   rw[if_pos rfl];exact ec k hk eF
  ·have h1:=h.lt i (by omega)
   rw[if_neg e6]
   by_cases mC:k=d
   ·subst mC
    rw[ed _ (by omega),h.off i t (by omega) a6 (by omega)];simp
   ·rw[el k _ hk mC h1]
    split
    ·exact h.off i d (by omega) hd (Ne.symm e6)
    ·exact h.off i k (by omega) hk eF
 ·by_cases hjd:j=d
  ·subst hjd
   rw[if_pos rfl,if_neg (by omega)];exact h.lt i (by omega)
  ·rw[if_neg hjd,if_neg (by omega)];exact h.mono i j gO (by omega)
 ·rcases Jj j c with hjc|hjc
  ·rw[el k j fw (by omega) hjc];exact bJ k (by omega) fw j hjc
  ·rw[show j=c from by omega];exact ec k fw (by omega)
 ·refine jS.trans ⟨fun i hi=>?_,fun i hi=>?_⟩ h.sp
  ·rw[sM]at hi
   rw[kT hi];have hr:Sp p n M (mkv n fun j=>(ent M t j*q)%p):=by
    refine zAH (k:=q) (zEZ (u:=[]) fun j _=>by simp[at0]) (qA (R:=M) (i:=t) (by rw[h.len];exact a6)) fun j hj=>?_
    rw[pr j hj,K7,Gt];simp[at0]
   split
   ·exact hr
   ·refine zAH (k:=0-at0 (if i=t then M.getD d []else M.getD i []) c) (v:=if i=t then M.getD d []else M.getD i []) ?_ hr fun j hj=>?_
    ·split
     ·exact qA (by rw[h.len];exact hd)
     ·exact qA (by rw[h.len];exact hi)
    ·rw[vW,yB hj,K7]
  ·rw[h.len]at hi
   have hr:=zCc (p:=p) (n:=n) (m:=m) (F:=fun i=>if i=d then mkv n fun j=>(ent M t j*q)%p else vW p n (if i=t then M.getD d []else M.getD i []) (0-at0 (if i=t then M.getD d []else M.getD i []) c) (mkv n fun j=>(ent M t j*q)%p)) hd;simp only[if_true]at hr;have hg:∀k,k<m→k≠d→Sp p n (mkR m fun i=>if i=d then mkv n fun j=>(ent M t j*q)%p else vW p n (if i=t then M.getD d []else M.getD i []) (0-at0 (if i=t then M.getD d []else M.getD i []) c) (mkv n fun j=>(ent M t j*q)%p)) (if k=t then M.getD d []else M.getD k []):=fun k hk mC=>by
    have h1:=zCc (p:=p) (n:=n) (m:=m) (F:=fun i=>if i=d then mkv n fun j=>(ent M t j*q)%p else vW p n (if i=t then M.getD d []else M.getD i []) (0-at0 (if i=t then M.getD d []else M.getD i []) c) (mkv n fun j=>(ent M t j*q)%p)) hk;simp only[if_neg mC]at h1;refine zAH (k:=at0 (if k=t then M.getD d []else M.getD k []) c) h1 hr fun j hj=>?_
    rw[vW,yB hj,pr j hj];exact zTm _ _ _ _
   by_cases ei:i=t
   ·
    subst ei;refine zAH (k:=ent M i c) (zEZ (u:=[]) fun j _=>by simp[at0]) hr fun j hj=>?_
    rw[pr j hj];have e1:(ent M i c*((ent M i j*q)%p))%p=(ent M i j*((ent M i c*q)%p))%p:=by
     rw[Jw,K7,←Jw,Jw (ent M i j),K7,←Jw]
     congr 1
     rw[←Hy,←Hy,Gt (ent M i c)]
    rw[show at0 ([]:List Int) j=0 from by simp[at0],Lh,e1,hq,Lz]
   ·by_cases e6:i=d
    ·subst e6
     have:=hg t a6 (by omega);rw[if_pos rfl]at this;exact this
    ·have:=hg i hi e6
     rw[if_neg ei]at this;exact this
end
end Go.Pl

namespace Go.Pl
open Go Go.Ab Go.Wk Go.Pc
theorem kL{v:List Int}(h:v.length≤1000000):f_F v=iG v:=by unfold f_F;rw[yI (by simp;omega),bs,Jv]
theorem zJa{rows:Mx}(hm:rows.length≤1000000)(hn:∀i,i<rows.length→(rows.getD i []).length≤1000000):zWZ rows=iG rows:=by
 unfold zWZ;have:=zX (body:=zNp rows) (r:=rows) (fun i=>(rows.take i,(i:Int))) rows.length (fun i hi=>by
  unfold zNp;simp only
  rw[yR hi,zK,yO [] hi,bs,kL (hn i hi),bs,yI (by simp;omega),bs,zC (by omega) (by omega),bs,cs,Jz hi,J2,J3 hi];rfl) (by
  unfold zNp;simp only
  rw[vE,zM,Ja1])
 rw[show((0:Nat):Int)=0 from rfl,Ka]at this;rw[this,bs]
theorem zRa{M:Mx}{d c m n:Nat}(hm:M.length=m)(hd:d≤m)(hmm:m≤1000000)(eO:∀i,i<m→(M.getD i []).length=n)(hc:c<n):
  ∃t:Nat,d≤t∧t≤m∧zI (zJh (M,(d:Int),(c:Int))) (d:Int)=iG (t:Int)∧(∀k,d≤k→k<t→ent M k c=0)∧(t<m→ent M t c≠0):=by
 have key:∀k,k≤m-d→ ∃t:Nat,m-k≤t∧t≤m∧zI (zJh (M,(d:Int),(c:Int))) ((m-k:Nat):Int)=iG (t:Int)∧(∀q,m-k≤q→q<t→ent M q c=0)∧(t<m→ent M t c≠0):=by
  intro k
  induction k with
  |zero=>
   intro _;refine⟨m,by omega,Jh _,?_,fun q h1 h2=>by omega,fun h=>by omega⟩;rw[xK];unfold zJh;simp only
   rw[hm,show m-0=m from rfl,vE,zM]
  |succ k ih=>
   intro hk;obtain⟨t,h1,h2,h3,h4,h5⟩:=ih (by omega);have gF:m-(k+1)<m:=by omega
   by_cases hz:ent M (m-(k+1)) c=0
   ·refine⟨t,by omega,h2,?_,fun q q1 q2=>?_,h5⟩
    ·rw[xK]
     have e:zJh (M,(d:Int),(c:Int)) ((m-(k+1):Nat):Int)=iG (.inl ((m-k:Nat):Int)):=by
      unfold zJh;simp only
      rw[hm,yR gF,zK,yO [] (by omega),bs,yN (by rw[eO _ gF];exact hc),bs,zM8 hz,zK,zC (by omega) (by omega),bs,cs,show m-(k+1)+1=m-k from by omega]
     rw[e];exact h3
    ·rcases Jj (m-(k+1)) q with g|g
     ·exact h4 q (by omega) q2
     ·rw[show q=m-(k+1)from by omega];exact hz
   ·refine⟨m-(k+1),Jh _,by omega,?_,fun q q1 q2=>by omega,fun _=>hz⟩
    rw[xK];have e:zJh (M,(d:Int),(c:Int)) ((m-(k+1):Nat):Int)=iG (.inr ((m-(k+1):Nat):Int)):=by
     unfold zJh;simp only
     rw[hm,yR gF,zK,yO [] (by omega),bs,yN (by rw[eO _ gF];exact hc),bs,zM9 hz,zM]
    rw[e]
 obtain⟨t,h1,h2,h3,h4,h5⟩:=key (m-d) (Jh _);rw[show m-(m-d)=d from by omega]at h1 h3 h4;exact⟨t,h1,h2,h3,h4,h5⟩
section
variable {p:Int} (hp:Prime p) {n m:Nat}{M:Mx}{d c t:Nat}
 include hp
theorem zOj{F:Nat→List Int}{q:Int}{b:Bool}(hd:d<m)(hr:Row p n (F d))(hn:n≤1000000)(hq:0≤q∧q≤p-1){v:List Int}(hv:v.length=n){s:Mx×Int×Int}(hs:s.2.1=(d:Int)):
  zI (zNq p s (q,b) v) (mkR m F,0)=iG (mkR m fun i=>if i=d then mkv n fun j=>(at0 (F d) j*q)%p else F i):=by
 have h7:=hp.pos;have:=zX (body:=zNq p s (q,b) v) (r:=mkR m fun i=>if i=d then mkv n fun j=>(at0 (F d) j*q)%p else F i) (fun k=>(mkR m fun i=>if i=d then mkv n (fun j=>if j<k then(at0 (F d) j*q)%p else at0 (F d) j)else F i,(k:Int))) n (fun k hk=>by
  have a1:=hr.2 k hk;have a2:=zCa hp (k:=q) ⟨by omega,by omega⟩ a1;have a3:=Gf a1.1 hq.1;rw[Gt]at a2;unfold zNq;simp only
  rw[hv,yR hk,zK,hs,zKF hd];simp only[bs,if_true];rw[yN (by rw[zY];exact hk),yB hk,if_neg (by omega)];simp only[bs];rw[zC (by omega) (by omega)];simp only[bs,tR];rw[if_neg (by omega)];simp only[bs];rw[Kz a3,zC (by omega) (by omega)];simp only[bs,J8,cs];rw[zGT]
  congr 3
  refine qI fun i _=>?_
  by_cases hi:i=d
  ·rw[if_pos hi,if_pos hi,qH]
   refine zZ fun j _=>?_
   by_cases hj:j=k
   ·subst hj;rw[if_pos rfl,if_pos (by omega)]
   ·rw[if_neg hj]
    by_cases pU:j<k
    ·rw[if_pos pU,if_pos (by omega)]
    ·rw[if_neg pU,if_neg (by omega)]
  ·rw[if_neg hi,if_neg hi,if_neg hi]) (by
  unfold zNq;simp only
  rw[hv,vE,zM]
  congr 2
  refine qI fun i _=>?_
  split
  ·exact zZ fun j hj=>by rw[if_pos hj]
  ·rfl)
 rw[show((0:Nat):Int)=0 from rfl]at this;rw[←this]
 congr 2
 refine qI fun i _=>?_
 split
 ·rename_i e;subst e
  conv=>lhs;rw[vC hr.1]
  exact zZ fun j _=>by rw[if_neg (by omega)]
 ·rfl
theorem zOl{F:Nat→List Int}(hd:d<m)(hc:c<n)(hr:∀i,i<m→Row p n (F i))(hn:n≤1000000)(hm:m≤1000000){r21:Mx}(hl:r21.length=m){s:Mx×Int×Int}(hs:s.2.1=(d:Int))(bO:s.2.2=(c:Int)):
  zI (zOQ p s r21) (mkR m F,0)=iG (mkR m fun i=>if i=d then F d else vW p n (F i) (0-at0 (F i) c) (F d)):=by
 have h7:=hp.pos;have:=zX (body:=zOQ p s r21) (r:=mkR m fun i=>if i=d then F d else vW p n (F i) (0-at0 (F i) c) (F d)) (fun k=>(mkR m fun i=>if i<k∧i≠d then vW p n (F i) (0-at0 (F i) c) (F d)else F i,(k:Int))) m (fun k hk=>by
  have a1:=(hr k hk).2 c hc;unfold zOQ;simp only
  rw[hl,yR hk,zK,hs,bO]
  by_cases mC:k=d
  ·subst mC
   rw[jO rfl,zM,zC (by omega) (by omega),bs,cs]
   congr 3
   refine qI fun i _=>?_
   by_cases hi:i=k
   ·subst hi;rw[if_neg (by omega),if_neg (by omega)]
   ·by_cases eZ:i<k
    ·rw[if_pos ⟨eZ,hi⟩,if_pos ⟨by omega,hi⟩]
    ·rw[if_neg (by omega),if_neg (by omega)]
  ·rw[jP (by omega),zK,zKF hk,zKF hd]
   simp only[bs,ne_eq,not_true_eq_false,and_false,if_false,Jbk,false_and];rw[yN (by rw[(hr k hk).1];exact hc)];simp only[bs];rw[zC (by omega) (by omega)];simp only[bs];rw[zB8 hp (hr k hk) (hr d hd) (by omega) hn,bs,zC (by omega) (by omega)];simp only[bs,J8,cs];rw[zGT]
   congr 3
   refine qI fun i _=>?_
   by_cases hi:i=k
   ·subst hi;rw[if_pos rfl,if_pos ⟨by omega,mC⟩]
   ·rw[if_neg hi]
    by_cases eZ:i<k∧ ¬i=d
    ·rw[if_pos eZ,if_pos ⟨by omega,eZ.2⟩]
    ·rw[if_neg eZ,if_neg (by omega)]) (by
  unfold zOQ;simp only
  rw[hl,vE,zM]
  congr 2
  refine qI fun i hi=>?_
  by_cases e6:i=d
  ·rw[if_pos e6,if_neg (by omega),e6]
  ·rw[if_neg e6,if_pos ⟨hi,e6⟩])
 rw[show((0:Nat):Int)=0 from rfl]at this;rw[←this]
 congr 2
end
end Go.Pl

namespace Go.Pl
open Go Go.Ab Go.Wk Go.Pc
theorem Red.empty{p:Int}{n:Nat}:Red p n [] (fun _=>0):=⟨fun _ h=>by simp at h,fun _ h=>by simp at h,fun _ h=>by simp at h,fun _ h=>by simp at h,fun _ _ h=>by simp at h,fun _ _ _ h=>by simp at h⟩
theorem zQZ.take{p:Int}{n m:Nat}{rows:Mx}{c:Nat}{M:Mx}{d:Nat}{pv:Nat→Nat}(h:zQZ p n m rows c M d pv)(aS:c≤n)(hz:∀k,d≤k→k<m→ ∀j,j<n→ent M k j=0):Red p n (M.take d) pv∧jS p n (M.take d) rows:=by
 have hl:(M.take d).length=d:=by rw[Kc,h.len];exact Ja0 h.dm
 have hg:∀i,i<d→(M.take d).getD i []=M.getD i []:=fun i hi=>by simp only[J2,Jcd,if_pos hi]
 have dm:=h.dm;refine⟨⟨fun i hi=>?_,fun i hi=>?_,fun i hi=>?_,fun i hi j hj=>?_,fun i k hi hk gf=>?_,fun i j gO hj=>?_⟩,jS.trans ⟨fun i hi=>?_,fun i hi=>?_⟩ h.sp⟩
 ·rw[hl]at hi;rw[hg i hi];exact h.row i (by omega)
 ·rw[hl]at hi;have:=h.lt i hi;omega
 ·rw[hl]at hi;simp only[ent,hg i hi];exact h.one i hi
 ·rw[hl]at hi;simp only[ent,hg i hi];exact h.low i hi j hj
 ·rw[hl]at hi hk;simp only[ent,hg k hk];exact h.off i k hi (by omega) gf
 ·rw[hl]at hj;exact h.mono i j gO hj
 ·rw[hl]at hi;rw[hg i hi];exact qA (by rw[h.len];omega)
 ·rw[h.len]at hi
  rcases Jj i d with g|g
  ·have:=qA (p:=p) (n:=n) (R:=M.take d) (i:=i) (by rw[hl];exact g)
   rw[hg i g]at this;exact this
  ·exact zEZ fun j hj=>by have:=hz i g hi j hj;simp only[ent]at this;rw[this];rfl
section
variable {p:Int} (hp:Prime p) {n:Nat}{rows:Mx} (hn:n≤100000) (hm:rows.length≤600000) (hr:∀i,i<rows.length→Row p n (rows.getD i []))
 include hp hn hm hr
theorem zMA:∃R pv,f_i p rows=iG R∧Red p n R pv∧jS p n R rows:=by
 have h7:=hp.pos;unfold f_i;rw[zJa (by omega) (fun i hi=>by have:=(hr i hi).1;omega),bs];have main:=uP (body:=zOR p) (s:=(rows,0,0)) (Q:=fun r=> ∃(M:Mx)(d:Nat)(pv:Nat→Nat),r=(M,(d:Int))∧d≤M.length∧Red p n (M.take d) pv∧jS p n (M.take d) rows)
  (fun i s=> ∃(M:Mx)(d:Nat)(pv:Nat→Nat),s=(M,(d:Int),(i:Int))∧zQZ p n rows.length rows i M d pv∧i≤n) n (fun c s hc hI=>?_) (fun s hI=>?_) ⟨rows,0,fun _=>0,rfl,⟨rfl,hr,Kg _,fun _ h=>by omega,fun _ h=>by omega,fun _ h=>by omega,fun _ _ h=>by omega,fun _ _ _ h=>by omega,fun _ _ _ _ h=>by omega,jS.refl⟩,Kg _⟩
 ·obtain⟨r,h1,M,d,pv,rfl,hd,hR,hS⟩:=main
  rw[h1,bs];simp only
  have e:yD M 0 (d:Int)=iG (M.take d):=by unfold yD;rw[if_pos ⟨by omega,by omega,by omega⟩];simp
  rw[e,bs];exact⟨_,_,rfl,hR,hS⟩
 ·
  obtain⟨M,d,pv,rfl,h,aS⟩:=hI;have hl:=h.len;have mf:=h.dm
  by_cases h0:rows.length=0
  ·refine .inr ⟨(M,(d:Int)),?_,M,d,pv,rfl,by omega,h.take aS fun k hk fw=>by omega⟩
   unfold zOR;simp only
   rw[iL (by omega),zM]
  have e0:zOR p (M,(d:Int),(c:Int))=cond (decide ((d:Int)<(M.length:Int))) ((zI (zJh (M,(d:Int),(c:Int))) (d:Int)).bind fun r6=>
    cond (r6==(M.length:Int)) ((rng ((c:Int)+1)).bind fun v7=>iG (.inl (M,(d:Int),v7))) (
     (ixO M r6).bind fun v8=>(ixO M (d:Int)).bind fun v9=>(ixO (jY M (d:Int) r6 v8 v9) (d:Int)).bind fun v10=>(ixO v10 (c:Int)).bind fun v11=>(f_V v11 p).bind fun r12=>
     (ixO (jY M (d:Int) r6 v8 v9) (d:Int)).bind fun v13=>(zI (zNq p (M,(d:Int),(c:Int)) r12 v13) (jY M (d:Int) r6 v8 v9,0)).bind fun r21=>
     (zI (zOQ p (M,(d:Int),(c:Int)) r21) (r21,0)).bind fun r30=>(rng ((d:Int)+1)).bind fun v31=>(rng ((c:Int)+1)).bind fun v32=>iG (.inl (r30,v31,v32)))) (iG (.inr (M,(d:Int)))):=by
   unfold zOR;simp only
   have hx:ixO M (0:Int)=iG (M.getD 0 []):=by have:=yO (v:=M) (i:=0) [] (by omega);exact this
   rw[iM (by omega),zK,hx];simp only[bs];rw[(h.row 0 (by omega)).1,yR hc,zK]
  rcases Jj d rows.length with hd|hd
  ·obtain⟨t,t1,t2,t3,t4,t5⟩:=zRa (M:=M) (d:=d) (c:=c) (m:=rows.length) (n:=n) hl mf (by omega) (fun i hi=>(h.row i hi).1) hc
   rw[e0,hl,yR hd,zK,t3];simp only[bs]
   by_cases a6:t=rows.length
   ·
    left;refine⟨(M,(d:Int),((c+1:Nat):Int)),?_,M,d,pv,rfl,⟨hl,h.row,mf,fun i hi=>by have:=h.lt i hi;omega,h.one,h.low,h.off,h.mono,fun k k1 k2 j hj=>?_,h.sp⟩,by omega⟩
    ·rw[zM8 (by omega),zK,zC (by omega) (by omega),bs,cs]
    ·rcases Jj j c with g|g
     ·exact h.zero k k1 k2 j g
     ·rw[show j=c from by omega];exact t4 k k1 (by omega)
   ·have fL:t<rows.length:=by omega
    have gf:=t5 fL;have ff:=h.row t fL;have hrc:=ff.2 c hc;obtain⟨q,q1,q2,q3,q4⟩:=zFb (p:=p) (x:=ent M t c) hp (by simp only[ent]at gf ⊢;omega) (by simp only[ent];omega);left;have hM:M=mkR rows.length (fun i=>M.getD i []):=zZh hl;obtain⟨F,hF⟩:∃F:Nat→List Int,∀i,F i=if i=t then M.getD d []else if i=d then M.getD t []else M.getD i []:=⟨_,fun _=>rfl⟩
    have mo:jY M (d:Int) (t:Int) (M.getD t []) (M.getD d [])=mkR rows.length F:=by
     unfold jY;rw[J8,J8]
     conv=>lhs;rw[hM]
     rw[zGT,zGT];exact qI fun i hi=>by rw[hF,kT hd,kT fL]
    have mr:∀i,i<rows.length→Row p n (F i):=fun i hi=>by
     rw[hF];split
     ·exact h.row d hd
     ·split
      ·exact ff
      ·exact h.row i hi
    have hFd:F d=M.getD t []:=by
     rw[hF]
     by_cases e:d=t
     ·rw[if_pos e,e]
     ·rw[if_neg e,if_pos rfl]
    obtain⟨G,hG⟩:∃G:Nat→List Int,∀i,G i=if i=d then mkv n fun j=>(at0 (F d) j*q)%p else F i:=⟨_,fun _=>rfl⟩
    have hGd:G d=mkv n fun j=>(ent M t j*q)%p:=by rw[hG,if_pos rfl,hFd]
    have hGo:∀i,i≠d→G i=if i=t then M.getD d []else M.getD i []:=fun i e6=>by rw[hG,if_neg e6,hF];simp only[e6,if_false]
    have bN:zI (zNq p (M,(d:Int),(c:Int)) (q,iI) (M.getD t [])) (mkR rows.length F,0)=iG (mkR rows.length G):=by
     rw[zOj hp (F:=F) hd (mr d hd) (by omega) ⟨q2,q3⟩ ff.1 rfl]
     congr 1
     exact qI fun i _=>(hG i).symm
    have hF3:∀i,i<rows.length→Row p n (G i):=fun i hi=>by
     rw[hG];split
     ·refine⟨zY _ _,fun j hj=>?_⟩
      have e1:=L4 (at0 (F d) j*q) (show p≠0 by omega);have e2:=Kk (at0 (F d) j*q) (show 0<p by omega);rw[yB hj];omega
     ·exact mr i hi
    have gC:=zOl hp (c:=c) (F:=G) hd hc hF3 (by omega) (by omega) (r21:=mkR rows.length G) sM (s:=(M,(d:Int),(c:Int))) rfl rfl;rw[zM9 (by omega),zM,yO [] (by omega),yO [] (by omega)];simp only[bs];rw[mo,zKF hd,hFd];simp only[bs];rw[yN (by rw[ff.1];exact hc)];simp only[bs];rw[show at0 (M.getD t []) c=ent M t c from rfl,q1];simp only[bs];rw[bN];simp only[bs];rw[gC];simp only[bs];rw[zC (by omega) (by omega),zC (by omega) (by omega)];simp only[bs,cs];have bt:=h.pivot hp hc hd t1 fL gf q4;refine⟨_,rfl,_,d+1,fun i=>if i=d then c else pv i,rfl,?_,by omega⟩;have e3:(mkR rows.length fun i=>if i=d then G d else vW p n (G i) (0-at0 (G i) c) (G d))=(mkR rows.length fun i=>if i=d then mkv n fun j=>(ent M t j*q)%p else vW p n (if i=t then M.getD d []else M.getD i []) (0-at0 (if i=t then M.getD d []else M.getD i []) c) (mkv n fun j=>(ent M t j*q)%p)):=by
     refine qI fun i hi=>?_
     rw[hGd]
     by_cases e6:i=d
     ·rw[if_pos e6,if_pos e6]
     ·rw[if_neg e6,if_neg e6,hGo i e6]
    rw[e3];exact bt
  ·
   refine .inr ⟨(M,(d:Int)),?_,M,d,pv,rfl,by omega,h.take aS fun k hk fw=>by omega⟩;rw[e0,iL (by omega),zM]
 ·
  obtain⟨M,d,pv,rfl,h,aS⟩:=hI;have hl:=h.len;have mf:=h.dm;refine⟨(M,(d:Int)),?_,M,d,pv,rfl,by omega,h.take aS fun k hk fw j hj=>h.zero k hk fw j hj⟩;unfold zOR;simp only
  by_cases h0:rows.length=0
  ·rw[iL (by omega),zM]
  ·have hx:ixO M (0:Int)=iG (M.getD 0 []):=by
    have:=yO (v:=M) (i:=0) [] (by omega);exact this
   rw[iM (by omega),zK,hx];simp only[bs];rw[(h.row 0 (by omega)).1,vE,zM]
end
end Go.Pl

namespace Go.Pl
open Go Go.Ab Go.Wk Go.Pc
theorem zJM{v:List Int}{n:Nat}(hl:v.length=n)(hn:n≤1000000):∃k:Nat,k≤n∧f_E v=iG (k:Int)∧(∀j,j<k→at0 v j=0)∧(k<n→at0 v k≠0):=by
 unfold f_E;rcases chk (body:=zJi v) n 0 (Kg _) (fun i=>at0 v i=0) (fun i=>(i:Int)) (fun i _ hi _=>by
   unfold zJi;rw[hl,yR hi,zK,yN (by omega),bs]
   by_cases h:at0 v i=0
   ·rw[jO h,zM,zC (by omega) (by omega),bs,cs];exact .inl ⟨rfl,h⟩
   ·rw[jP h,zK];exact .inr ⟨rfl,h⟩) (by
   unfold zJi;rw[hl,vE,zM])with⟨h1,h2⟩|⟨i,_,hi,h1,h2⟩
 ·rw[show((0:Nat):Int)=0 from rfl]at h1
  rw[h1,bs];exact⟨n,Jh _,by simp only[hl],fun j hj=>h2 j (Kg _) hj,fun h=>by omega⟩
 ·rw[show((0:Nat):Int)=0 from rfl]at h1
  rw[h1,bs];obtain⟨k,⟨hk1,fw⟩,eG⟩:=zDG (p:=fun k=>k<n∧at0 v k≠0) ⟨i,hi,h2⟩;have hz:∀j,j<k→at0 v j=0:=fun j hj=>Classical.byContradiction fun h=>eG j hj ⟨by omega,h⟩
  have hki:k=i:=by
   have eV:∀q,q≤k→zI (zJi v) ((k-q:Nat):Int)=iG (.inr (k:Int)):=by
    intro q
    induction q with
    |zero=>
     intro _;rw[xK];have e:zJi v ((k-0:Nat):Int)=iG (.inr (.inr (k:Int))):=by unfold zJi;rw[show k-0=k from rfl,hl,yR hk1,zK,yN (by omega),bs,jP fw,zK]
     rw[e]
    |succ q ih=>
     intro hq;rw[xK];have e:zJi v ((k-(q+1):Nat):Int)=iG (.inl ((k-q:Nat):Int)):=by unfold zJi;rw[hl,yR (by omega),zK,yN (by omega),bs,jO (hz _ (by omega)),zM,zC (by omega) (by omega),bs,cs,show k-(q+1)+1=k-q from by omega]
     rw[e];exact ih (by omega)
   have:=eV k (Jh _);rw[Kj,show((0:Nat):Int)=0 from rfl,h1]at this;have:=Sum.inr.inj (Lu.inj this);omega
  exact⟨i,by omega,rfl,by rw[←hki];exact hz,fun _=>h2⟩
theorem zGU{v:List Int}{n k:Nat}(hl:v.length=n)(hn:n≤1000000)(hk:k<n)(h0:∀j,j<k→at0 v j=0)(h1:at0 v k≠0):f_E v=iG (k:Int):=by
 obtain⟨q,q1,q2,q3,q4⟩:=zJM hl hn;have:q=k:=by
  rcases Hq q k with g|g|g
  ·exact absurd (h0 q g) (q4 (by omega))
  ·exact g
  ·exact absurd (q3 k g) h1
 rw[q2,this]
theorem zTn{p x:Int}(hp:Prime p)(h0:1≤x)(h1:x≤p-1):∃r,zXa x p=iG r∧0≤r∧r≤p-1∧(x*r)%p=1:=by
 have h7:=hp.pos;have hx:∃k:Nat,1≤k∧(k:Int)<p∧(x*(k:Int))%p=1:=by
  obtain⟨r,_,r1,r2,r3⟩:=zFb hp h0 h1;refine⟨r.toNat,?_,by omega,by rw[Jcx r1];exact r3⟩;rcases Int.lt_or_eq_of_le r1 with g|g
  ·omega
  ·rw[←g]at r3;simp at r3
 obtain⟨k,⟨k1,k2,k3⟩,eG⟩:=zDG hx;have body:∀i:Nat,1≤i→(i:Int)<p→zNs x p (i:Int)=cond ((x*(i:Int))%p==1) (iG (.inr (.inr (i:Int)))) (iG (.inl ((i+1:Nat):Int))):=fun i hi hip=>by
  have a3:=Gf (show 0≤x by omega) (show 0≤(i:Int)by omega);have a4:=zCa hp (k:=(i:Int)) ⟨by omega,by omega⟩ (b:=x) ⟨by omega,h1⟩;rw[Gt]at a4;unfold zNs;rw[iM hip,zK,zM7 hp (by omega) (by omega),bs,Jy (by omega) (by omega),zC (by omega) (by omega),bs];unfold tR;rw[if_neg (by omega),bs,Kz a3]
  by_cases hh:(x*(i:Int))%p=1
  ·rw[zM8 hh,zK,zK]
  ·rw[zM9 hh,zM,zM,zC (by omega) (by omega),bs,cs]
 have eV:∀q,q+1≤k→zI (zNs x p) ((k-q:Nat):Int)=iG (.inr (k:Int)):=by
  intro q
  induction q with
  |zero=>
   intro _;rw[xK,show k-0=k from rfl,body k k1 k2,zM8 k3,zK]
  |succ q ih=>
   intro hq;have gf:(x*((k-(q+1):Nat):Int))%p≠1:=fun h=>eG (k-(q+1)) (by omega) ⟨by omega,by omega,h⟩
   rw[xK,body _ (by omega) (by omega),zM9 gf,zM,show k-(q+1)+1=k-q from by omega];exact ih (by omega)
 have:=eV (k-1) (by omega);rw[show k-(k-1)=1 from by omega,show((1:Nat):Int)=1 from rfl]at this;refine⟨(k:Int),?_,by omega,by omega,k3⟩;unfold zXa;rw[this,bs]
section
variable {p:Int} (hp:Prime p) {n:Nat} (hn:n≤100000)
 include hp hn
theorem zZi{r s:List Int}(hr:Row p n r):vW p n r p s=r:=by
 have _:=hp;have _:=hn
 conv=>rhs;rw[vC hr.1]
 refine zZ fun j hj=>?_
 have:=hr.2 j hj;rw[Ls];exact Jy this.1 (by omega)
def cl(p:Int)(n:Nat)(out:Mx)(pv:Nat→Nat)(v:List Int):Nat→List Int
 |0=>v
 |i+1=>vW p n (cl p n out pv v i) (p-at0 (cl p n out pv v i) (pv i)) (out.getD i [])
variable {out:Mx}{pv:Nat→Nat} (h:Red p n out pv) {v:List Int} (hv:Row p n v)
 include h hv
theorem zEq:∀i,Row p n (cl p n out pv v i):=by
 have _:=hn;have _:=h;intro i;cases i with
 |zero=>exact hv
 |succ i=>exact zAf hp
theorem zOm:∀i,i≤out.length→ ∀k,k<i→at0 (cl p n out pv v i) (pv k)=0:=by
 have _:=hn;have _:=hv;have h7:=hp.pos;intro i
 induction i with
 |zero=>intro _ k hk;omega
 |succ i ih=>
  intro hi k hk;have gF:=h.lt k (by omega);rw[cl,vW,yB gF];rcases Jj k i with g|g
  ·have h1:=ih (by omega) k g
   have h2:=h.off k i (by omega) (by omega) (by omega);simp only[ent]at h2;rw[h1,h2];simp
  ·have hki:k=i:=by omega
   subst hki;have h2:=h.one k (by omega);simp only[ent]at h2;rw[h2,Lz,show at0 (cl p n out pv v k) (pv k)+(p-at0 (cl p n out pv v k) (pv k))=p from by omega,Int.emod_self]
theorem zPS:∀i,i≤out.length→ ∃cf:Nat→Int,∀j,j<n→at0 (cl p n out pv v i) j%p=(at0 v j+S out.length fun k=>cf k*ent out k j)%p:=by
 have _:=hp;have _:=h;have _:=hv;have _:=hn;intro i
 induction i with
 |zero=>intro _;exact⟨fun _=>0,fun j _=>by rw[xI (g:=fun _=>0) (fun i _=>by simp),sY,H0];rfl⟩
 |succ i ih=>
  intro hi;obtain⟨cf,fE⟩:=ih (by omega);refine⟨fun k=>cf k+(if k=i then p-at0 (cl p n out pv v i) (pv i)else 0),fun j hj=>?_⟩;have e1:(S out.length fun k=>(cf k+(if k=i then p-at0 (cl p n out pv v i) (pv i)else 0))*ent out k j)=(S out.length fun k=>cf k*ent out k j)+(p-at0 (cl p n out pv v i) (pv i))*ent out i j:=by rw[xI (g:=fun k=>cf k*ent out k j+(if k=i then p-at0 (cl p n out pv v i) (pv i)else 0)*ent out k j) (fun k _=>by rw[Qu]),zCT,jR (f:=fun k=>(if k=i then p-at0 (cl p n out pv v i) (pv i)else 0)*ent out k j) (k:=i) (by omega) (fun k _ hk=>by simp[hk])];simp
  rw[e1,cl,vW,yB hj,K7,←Int.add_assoc,Kh,fE j hj,←Kh]
theorem zEr(hm:out.length≤100000):zOS p out v=iG (cl p n out pv v out.length):=by
 have h7:=hp.pos;unfold zOS;rw[qV (by rw[hv.1];omega),bs];have:=zX (body:=zNr p out) (r:=cl p n out pv v out.length) (fun i=>(cl p n out pv v i,(i:Int))) out.length (fun i hi=>by
  have hr:=zEq hp hn h hv i;have ho:=h.row i hi;have gF:=h.lt i hi;have gw:=h.one i hi;have fR:=h.low i hi;simp only[ent]at gw fR;have he:=hr.2 (pv i) gF;unfold zNr;simp only
  rw[yR hi,zK,yO [] hi,bs,zGU ho.1 (by omega) gF fR (by rw[gw];decide),bs,hr.1,yR gF,zK,yN (by rw[hr.1];exact gF),bs]
  by_cases hz:at0 (cl p n out pv v i) (pv i)=0
  ·rw[jO hz,zM,zC (by omega) (by omega),bs,cs,cl,hz,Jca,zZi hp hn hr]
  ·rw[jP hz,zK,bs,zC (by omega) (by omega),bs,bs,tT hp hr ho ⟨by omega,by omega⟩ (by omega),bs,zC (by omega) (by omega),bs,cs]
   rfl) (by
  unfold zNr;simp only
  rw[vE,zM])
 rw[show((0:Nat):Int)=0 from rfl]at this;simp only[cl]at this;rw[this,bs]
end
end Go.Pl

namespace Go.Pl
open Go Go.Ab Go.Wk Go.Pc
section
variable {p:Int} (hp:Prime p) {n:Nat}{out:Mx}{pv:Nat→Nat} (h:Red p n out pv) {u:List Int}{k q:Nat} (hu:Row p n u) (hk:k<n) (u1:at0 u k=1) (ul:∀j,j<k→at0 u j=0) (up:∀i,i<out.length→at0 u (pv i)=0) (hq:q≤out.length) (q1:∀i,i<q→pv i<k) (q2:∀i,q≤i→i<out.length→k<pv i)
def oth(p:Int)(n:Nat)(out:Mx)(u:List Int)(k i:Nat):List Int:=vW p n (out.getD i []) (p-at0 (out.getD i []) k) u
def sP(p:Int)(n:Nat)(out:Mx)(u:List Int)(k q i:Nat):List Int:=if i<q then oth p n out u k i else if i=q then u else oth p n out u k (i-1)
def zWt(pv:Nat→Nat)(k q i:Nat):Nat:=if i<q then pv i else if i=q then k else pv (i-1)
 include hp h hu hk u1 ul up hq q1 q2
theorem zOn{i j:Nat}(hj:j<n):at0 (oth p n out u k i) j=(at0 (out.getD i []) j-at0 (out.getD i []) k*at0 u j)%p:=by have _:=hp;have _:=h;have _:=hu;have _:=hk;have _:=u1;have _:=ul;have _:=up;have _:=hq;have _:=q1;have _:=q2;rw[oth,vW,yB hj,show at0 (out.getD i []) j+(p-at0 (out.getD i []) k)*at0 u j=at0 (out.getD i []) j-at0 (out.getD i []) k*at0 u j+p*at0 u j from by rw[Qs];omega,Ls]
theorem zFc{i j:Nat}(hi:i<out.length)(hj:j<n)(hz:at0 (out.getD i []) k=0∨at0 u j=0):at0 (oth p n out u k i) j=ent out i j:=by
 rw[zOn hp h hu hk u1 ul up hq q1 q2 hj];have:=(h.row i hi).2 j hj;have e:at0 (out.getD i []) k*at0 u j=0:=by rcases hz with g|g<;>rw[g]<;>simp
 rw[e,Jca];exact Jy this.1 (by omega)
theorem yBx{i:Nat}:at0 (oth p n out u k i) k=0:=by rw[zOn hp h hu hk u1 ul up hq q1 q2 hk,u1,Lz,Int.sub_self];rfl
theorem zWu{i j:Nat}(hi:i<out.length)(hj:j<pv i)(gf:pv i≠k):at0 (oth p n out u k i) j=0:=by
 have gF:=h.lt i hi;rcases Jj (pv i) k with g|g
 ·rw[zFc hp h hu hk u1 ul up hq q1 q2 hi (by omega) (.inr (ul j (by omega)))];exact h.low i hi j hj
 ·have:=h.low i hi k (by omega)
  rw[zFc hp h hu hk u1 ul up hq q1 q2 hi (by omega) (.inl this)];exact h.low i hi j hj
theorem yBy{i:Nat}(hi:i<out.length):pv i≠k:=by have _:=h;have _:=q1;have _:=q2;have _:=hp;have _:=hu;have _:=hk;have _:=ul;have _:=hq;intro e;have:=up i hi;rw[e,u1]at this;cases this
theorem zJN{i:Nat}(hi:i<out.length+1):(i=q∧sP p n out u k q i=u∧zWt pv k q i=k)∨ ∃a,a<out.length∧(i<q∧a=i∨q<i∧i=a+1)∧sP p n out u k q i=oth p n out u k a∧zWt pv k q i=pv a:=by
 have _:=hp;have _:=h;have _:=hu;have _:=hk;have _:=u1;have _:=ul;have _:=up;have _:=q1;have _:=q2;unfold sP zWt;rcases Hq i q with g|g|g
 ·exact .inr ⟨i,by omega,.inl ⟨g,rfl⟩,by rw[if_pos g],by rw[if_pos g]⟩
 ·exact .inl ⟨g,by rw[if_neg (by omega),if_pos g],by rw[if_neg (by omega),if_pos g]⟩
 ·exact .inr ⟨i-1,by omega,.inr ⟨g,by omega⟩,by rw[if_neg (by omega),if_neg (by omega)],by rw[if_neg (by omega),if_neg (by omega)]⟩
theorem zOo:Red p n (mkR (out.length+1) (sP p n out u k q)) (zWt pv k q):=by
 have nc:=fun i hi=>zJN hp h hu hk u1 ul up hq q1 q2 (i:=i) hi
 have pn:=fun i hi=>yBy hp h hu hk u1 ul up hq q1 q2 (i:=i) hi
 refine⟨fun i hi=>?_,fun i hi=>?_,fun i hi=>?_,fun i hi j hj=>?_,fun i j hi hj gf=>?_,fun i j gO hj=>?_⟩<;>rw[sM]at*
 ·rw[kT hi]
  rcases nc i hi with⟨_,e,_⟩|⟨a,_,_,e,_⟩<;>rw[e]
  ·exact hu
  ·exact zAf hp
 ·rcases nc i hi with⟨_,_,e⟩|⟨a,ha,_,_,e⟩<;>rw[e]
  ·exact hk
  ·exact h.lt a ha
 ·rw[zFa hi]
  rcases nc i hi with⟨_,e1,e2⟩|⟨a,ha,_,e1,e2⟩<;>rw[e1,e2]
  ·exact u1
  ·rw[zFc hp h hu hk u1 ul up hq q1 q2 ha (h.lt a ha) (.inr (up a ha))];exact h.one a ha
 ·rw[zFa hi]
  rcases nc i hi with⟨_,e1,e2⟩|⟨a,ha,_,e1,e2⟩<;>rw[e2]at hj<;>rw[e1]
  ·exact ul j hj
  ·exact zWu hp h hu hk u1 ul up hq q1 q2 ha hj (pn a ha)
 ·rw[zFa hj]
  rcases nc i hi with⟨g1,_,e2⟩|⟨a,ha,ga,_,e2⟩<;>rw[e2]<;>rcases nc j hj with⟨g3,e3,_⟩|⟨b,hb,gb,e3,_⟩<;>rw[e3]
  ·omega
  ·exact yBx hp h hu hk u1 ul up hq q1 q2
  ·exact up a ha
  ·rw[zFc hp h hu hk u1 ul up hq q1 q2 hb (h.lt a ha) (.inr (up a ha))]
   exact h.off a b ha hb (by omega)
 ·rcases nc i (by omega)with⟨g1,_,e2⟩|⟨a,ha,ga,_,e2⟩<;>rw[e2]<;>rcases nc j hj with⟨g3,_,e4⟩|⟨b,hb,gb,_,e4⟩<;>rw[e4]
  ·omega
  ·exact q2 b (by omega) hb
  ·exact q1 a (by omega)
  ·exact h.mono a b (by omega) hb
theorem zRb:(∀i,i<out.length+1→Sp p n (out++[u]) (sP p n out u k q i))∧(∀i,i<out.length→Sp p n (mkR (out.length+1) (sP p n out u k q)) (out.getD i []))∧Sp p n (mkR (out.length+1) (sP p n out u k q)) u:=by
 have eY:Sp p n (out++[u]) u:=by have:=qA (p:=p) (n:=n) (R:=out++[u]) (i:=out.length) (by simp);simpa[J2]using this
 have hol:∀i,i<out.length→Sp p n (out++[u]) (out.getD i []):=fun i hi=>by have:=qA (p:=p) (n:=n) (R:=out++[u]) (i:=i) (by simp;omega);simpa[J2,Jx hi]using this
 have um:∀i,i<out.length→Sp p n (out++[u]) (oth p n out u k i):=fun i hi=>
  zAH (k:=p-at0 (out.getD i []) k) (hol i hi) eY fun j hj=>by rw[oth,vW,yB hj,K7]
 have ab:Sp p n (mkR (out.length+1) (sP p n out u k q)) u:=by have:=zCc (p:=p) (n:=n) (m:=out.length+1) (F:=sP p n out u k q) (i:=q) (by omega);rw[show sP p n out u k q q=u from by unfold sP;rw[if_neg (by omega),if_pos rfl]]at this;exact this
 refine⟨fun i hi=>?_,fun i hi=>?_,ab⟩
 ·rcases zJN hp h hu hk u1 ul up hq q1 q2 hi with⟨_,e,_⟩|⟨a,ha,_,e,_⟩<;>rw[e]
  ·exact eY
  ·exact um a ha
 ·have eZ:∃b,b<out.length+1∧sP p n out u k q b=oth p n out u k i:=by
   rcases Jj i q with g|g
   ·exact⟨i,by omega,by unfold sP;rw[if_pos g]⟩
   ·exact⟨i+1,by omega,by unfold sP;rw[if_neg (by omega),if_neg (by omega)];rfl⟩
  obtain⟨b,hb,e⟩:=eZ;have h1:=zCc (p:=p) (n:=n) (m:=out.length+1) (F:=sP p n out u k q) hb;rw[e]at h1;refine zAH (k:=at0 (out.getD i []) k) h1 ab fun j hj=>?_
  rw[zOn hp h hu hk u1 ul up hq q1 q2 hj,Kh,K7,←Kh,show at0 (out.getD i []) j-at0 (out.getD i []) k*at0 u j+at0 (out.getD i []) k*at0 u j=at0 (out.getD i []) j from by omega]
theorem zMB(hn:n≤100000)(hm:out.length≤100000){x:Int}:
  ((zI (zJj p (out,x) (k:Int) u) ([],iJ,0)).bind fun r32=>cond (!r32.2) ((xT r32.1 [u]).bind fun v33=>iG v33) (iG r32.1))=iG (mkR (out.length+1) (sP p n out u k q)):=by
 have _:=u1;have _:=ul;have _:=up;have h7:=hp.pos;have ho:∀i,i<out.length→f_z p (out.getD i []) (p-at0 (out.getD i []) k) u=iG (oth p n out u k i)∧ixO (out.getD i []) (k:Int)=iG (at0 (out.getD i []) k)∧0≤at0 (out.getD i []) k∧at0 (out.getD i []) k≤p-1∧f_E (out.getD i [])=iG (pv i:Int):=fun i hi=>by have hr:=h.row i hi;have fw:=hr.2 k hk;have gw:=h.one i hi;have fR:=h.low i hi;simp only[ent]at gw fR;exact⟨by rw[tT hp hr hu ⟨by omega,by omega⟩ (by omega)];rfl,yN (by rw[hr.1];exact hk),fw.1,fw.2,zGU hr.1 (by omega) (h.lt i hi) fR (by rw[gw];decide)⟩
 have ac:∀{m:Nat}{F:Nat→List Int},mkR m F++[F m]=mkR (m+1) F:=fun{m F}=>by simp[mkR,Ll]
 have:=zX (body:=zJj p (out,x) (k:Int) u) (r:=(if out.length≤q then(mkR out.length (sP p n out u k q),iJ)else(mkR (out.length+1) (sP p n out u k q),iI)))
  (fun j=>if j≤q then(mkR j (sP p n out u k q),iJ,(j:Int))else(mkR (j+1) (sP p n out u k q),iI,(j:Int))) out.length (fun j hj=>by
   obtain⟨a1,a2,a3,a4,a5⟩:=ho j hj;have dO:rng (p-at0 (out.getD j []) k)=iG (p-at0 (out.getD j []) k):=zC (by omega) (by omega);rcases Hq j q with g|g|g
   ·have ar:=q1 j g
    rw[if_pos (by omega),if_pos (by omega)];unfold zJj;simp only
    rw[yR hj,zK,Kd,zK,yO [] hj];simp only[bs,a5];rw[iL (by omega),zM,a2];simp only[bs,dO,a1];rw[yI (by rw[sM];simp;omega),bs,zC (by omega) (by omega),bs,cs];have:sP p n out u k q j=oth p n out u k j:=by unfold sP;rw[if_pos g]
    rw[←this,ac]
   ·subst g
    have ar:=q2 j (Jh _) hj;rw[if_pos (by omega),if_neg (by omega)];unfold zJj;simp only
    rw[yR hj,zK,Kd,zK,yO [] hj];simp only[bs,a5];rw[iM (by omega),zK,yI (by rw[sM];simp;omega),a2];simp only[bs,dO,a1];have e1:sP p n out u k j j=u:=by unfold sP;rw[if_neg (by omega),if_pos rfl]
    have e2:sP p n out u k j (j+1)=oth p n out u k j:=by unfold sP;rw[if_neg (by omega),if_neg (by omega)];rfl
    have e3:mkR j (sP p n out u k j)++[u]=mkR (j+1) (sP p n out u k j):=by rw[←ac,e1]
    rw[e3,yI (by rw[sM];simp;omega),bs,zC (by omega) (by omega),bs,cs,←e2,ac]
   ·rw[if_neg (by omega),if_neg (by omega)]
    unfold zJj;simp only
    rw[yR hj,zK,Jo,zM,yO [] hj];simp only[bs,a2,dO,a1];have e2:sP p n out u k q (j+1)=oth p n out u k j:=by unfold sP;rw[if_neg (by omega),if_neg (by omega)];rfl
    rw[yI (by rw[sM];simp;omega),bs,zC (by omega) (by omega),bs,cs,←e2,ac]) (by
   by_cases g:out.length≤q
   ·rw[if_pos g,if_pos g]
    unfold zJj;simp only
    rw[vE,zM]
   ·rw[if_neg g,if_neg g]
    unfold zJj;simp only
    rw[vE,zM])
 rw[if_pos (Kg _),show((0:Nat):Int)=0 from rfl,show mkR 0 (sP p n out u k q)=[]from rfl]at this;rw[this,bs]
 by_cases g:out.length≤q
 ·have e1:sP p n out u k q out.length=u:=by unfold sP;rw[if_neg (by omega),if_pos (by omega)]
  rw[if_pos g];simp only
  rw[Kd,zK,yI (by rw[sM];simp;omega),bs]
  congr 1
  rw[←ac,e1]
 ·rw[if_neg g]
  simp only
  rw[Jo,zM]
end
end Go.Pl
