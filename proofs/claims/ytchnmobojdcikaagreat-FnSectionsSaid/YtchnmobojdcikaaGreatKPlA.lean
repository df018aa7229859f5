/- x -/
import Derived.Test.YtchnmobojdcikaaGreatKAbB
import Derived.Test.YtchnmobojdcikaaGreatKWF
open List renaming replicate→J1,getD_eq_getElem?_getD→J3,length_append→J5,length_replicate→J6,getElem?_eq_getElem→J7,mem_cons→J9,append_nil→Jb,length_cons→Jc,getElem?_append_right→Je,mem_append→Jf,append_assoc→Jg,range→Jh,mem_map→Ji,replicate_append_replicate→Jl,length_singleton→Jm,getElem?_eq_some_iff→Jo,nil_append→Jq,take_of_length_le→Jr,length_map→Js,map_cons→Jt,replicate_succ→Ju,length_nil→K0,getElem?_append_left→K3,getElem?_map→K4,mem_iff_getElem→K6,take_succ_eq_append_getElem→Kc,cons_append→Kd,getElem_mem→Ke,getElem?_replicate→Kg,ext_getElem?→Kl,take_zero→Km,getElem?_append→Kn,mem_range→Kq,length_drop→Kr,range'→Kt,replicate_succ'→Kw,length_take→L4,take_succ_cons→L5,range_eq_range'→L7,getElem?_drop→Lm,range_succ→Lo,mem_flatMap→Lr,map_append→Ls,replicate_zero→Lw,set_cons_zero→Lx,getD_cons_zero→H6,eq_of_mem_replicate→Hc,singleton_append→Hd,length_range→Hi,foldl_append→G5,drop_zero→G9,drop_of_length_le→Gi,map_nil→Gp,drop_eq_getElem_cons→Gs,map_congr_left→U4,all_cons→U6,flatten_nil→Ue,getElem?_cons_zero→Uj,suffix_cons_iff→Us,map_map→Uu,range_succ_eq_map→Q7,not_mem_nil→Q8,set_append_right→Qh,getElem?_set_ne→Qs,getElem?_cons_succ→Qy,findSome?_cons→Qz,getElem?_set→Ja6,range'_succ→Jav,length→Jb0,flatMap_append→Jb1
open Bool renaming and_eq_true→J2,not_true→Ja,not_false→Jy
open Int renaming toNat_natCast→J8,mul_emod→Jv,emod_emod→Jz,emod_eq_of_lt→K1,add_emod→K9,emod_lt_of_pos→Ki,emod_nonneg→Kv,tmod_eq_emod_of_nonneg→Lf,mul_le_mul→Lg,zero_add→Lh,mul_one→Ln,mul_zero→Lt,add_zero→Lu,mul_le_mul_of_nonneg_left→Lz,natCast_add→H1,mul_assoc→Hh,mul_comm→Hm,mul_nonneg→Hq,add_mul_emod_self_left→Hs,toNat_zero→G3,tdiv_eq_ediv_of_nonneg→G4,add_emod_right→Uc,tmod_add_mul_tdiv→Ux,lt_tmod_of_pos→Qj,zero_mul→Qt,one_mul→Ja3,tmod→Ja7,tmod_lt_of_pos→Jaa,sub_zero→Jaf
open Nat renaming zero_add→Jd,le_refl→Jk,lt_or_ge→Jn,zero_le→Kf,sub_self→Ku,le_trans→Hl,div_add_mod→Gf,min_eq_left→Uk,sub_zero→Qn,lt_trichotomy→Qo,add_zero→Jad,lt_irrefl→Jay,eq_zero_or_pos→Jaz
open Option renaming map_eq_some_iff→Kk,some→Ll,map_some→Gk,getD_some→Ql
open Option renaming some→dJ,none→dK
open Bool renaming true→dL,false→dM
namespace Go.Pc
abbrev Vec:=List Int
structure Lvl where
 o:Int
 w:Vec
 cs:List Vec
abbrev Pcp:=List Lvl
def zeros(n:Nat):Vec:=J1 n 0
def iter{α:Type}:Nat→(α→α)→α→α
 |0,_,x=>x
 |n+1,f,x=>iter n f (f x)
theorem wW{α:Type}(f:α→α):∀(n:Nat)(x:α),iter (n+1) f x=f (iter n f x)
 |0,_=>rfl
 |n+1,x=>by rw[iter,wW f n (f x)];rfl
theorem zEX{α:Type}(f:α→α)(a:Nat):∀(b:Nat)(x:α),iter (a+b) f x=iter a f (iter b f x)
 |0,_=>rfl
 |b+1,x=>by show iter (a+b) f (f x)=_;rw[zEX f a b (f x)];rfl
def img{α:Type}(m:α→α→α):List α→Vec→α→α
 |c::cs,x::xs,acc=>img m cs xs (iter x.toNat (fun v=>m v c) acc)
 |_,_,acc=>acc
def V:Pcp→Vec→Prop
 | [],v=>v=[]
 |l::P,v=>match v with
  | []=>False
  |a::x=>(0≤a∧a<l.o)∧V P x
def mul:Pcp→Vec→Vec→Vec
 |l::P,a::x,b::y=>
  let r:=mul P (iter b.toNat (fun v=>img (mul P) l.cs v (zeros P.length)) x) y
  if a+b≥l.o then(a+b-l.o)::mul P l.w r else(a+b)::r
 |_,_,_=>[]
def Ok:Pcp→Prop
 | []=>True
 |l::P=>1<l.o∧V P l.w∧l.cs.length=P.length∧(∀c∈l.cs,V P c)∧Ok P
structure Mon {α:Type} (S:α→Prop) (m:α→α→α) (e:α):Prop where
 cl:∀{a b},S a→S b→S (m a b)
 ein:S e
 assoc:∀{a b c},S a→S b→S c→m (m a b) c=m a (m b c)
 onel:∀{a},S a→m e a=a
 oner:∀{a},S a→m a e=a
structure Grp {α:Type} (S:α→Prop) (m:α→α→α) (e:α):Prop extends Mon S m e where
 inv:∀{a},S a→ ∃b,S b∧m a b=e
theorem Grp.invl{α:Type}{S:α→Prop}{m:α→α→α}{e:α}(h:Grp S m e){a:α}(ha:S a):∃b,S b∧m a b=e∧m b a=e:=by
 obtain⟨b,hb,h1⟩:=h.inv ha;obtain⟨c,hc,h2⟩:=h.inv hb;refine⟨b,hb,h1,?_⟩;have:a=c:=by rw[←h.oner ha,←h2,←h.assoc ha hb hc,h1,h.onel hc]
 grind
theorem Grp.cancel_l{α:Type}{S:α→Prop}{m:α→α→α}{e:α}(h:Grp S m e){a b c:α}(ha:S a)(hb:S b)(hc:S c)(hh:m a b=m a c):b=c:=by obtain⟨d,hd,_,h2⟩:=h.invl ha;rw[←h.onel hb,←h.onel hc,←h2,h.assoc hd ha hb,h.assoc hd ha hc,hh]
section
variable {α:Type}{S:α→Prop}{m:α→α→α}{e:α}
def pw(m:α→α→α)(e:α)(x:α)(k:Nat):α:=iter k (fun v=>m v x) e
theorem tP(h:Mon S m e){x:α}(hx:S x):∀k,S (pw m e x k)
 |0=>h.ein
 |k+1=>by rw[pw,wW];exact h.cl (tP h hx k) hx
theorem vG{f:α→α}(hf:∀a,S a→S (f a)):∀(k:Nat){x:α},S x→S (iter k f x)
 |0,_,hx=>hx
 |k+1,_,hx=>vG hf k (hf _ hx)
theorem zEY(h:Mon S m e){x a:α}(hx:S x)(ha:S a):∀k,iter k (fun v=>m v x) a=m a (pw m e x k)
 |0=>(h.oner ha).symm
 |k+1=>by rw[wW,zEY h hx ha k];show _=m a (iter (k+1) (fun v=>m v x) e);rw[wW];exact h.assoc ha (tP h hx k) hx
theorem zHK(h:Mon S m e){x:α}(hx:S x)(a b:Nat):pw m e x (a+b)=m (pw m e x a) (pw m e x b):=by rw[Nat.add_comm,pw,zEX,←zEY h hx (tP h hx a) b];rfl
theorem zSO(h:Mon S m e){x:α}(hx:S x):pw m e x 1=x:=h.onel hx
theorem zSP(h:Mon S m e){x:α}(hx:S x)(k:Nat):pw m e x (k+1)=m x (pw m e x k):=by rw[Nat.add_comm,zHK h hx 1 k,zSO h hx]
theorem kH(h:∀{a b},S a→S b→S (m a b)):∀(cs:List α)(x:Vec){a:α},(∀c∈cs,S c)→S a→S (img m cs x a)
 |c::cs,x::xs,_,hc,ha=>by simp only[img];exact kH h cs xs (by grind) (vG (by simp_all) _ ha)
 | [],_,_,_,ha=>by grind[img]
 |_::_,[],_,_,ha=>by grind[img]
theorem zFO(h:Mon S m e)(cs:List α)(x:Vec){a:α}(hc:∀c∈cs,S c)(ha:S a):S (img m cs x a):=kH h.cl cs x hc ha
theorem zEZ(h:Mon S m e):∀(cs:List α)(x:Vec){a:α},(∀c∈cs,S c)→S a→img m cs x a=m a (img m cs x e)
 |c::cs,x::xs,a,hc,ha=>by
  have h1:S c:=hc c (by simp);have h2:∀c∈cs,S c:=by grind
  simp only[img];rw[zEY h h1 ha,zEZ h cs xs h2 (h.cl ha (tP h h1 _)),zEY h h1 h.ein,zEZ h cs xs h2 (h.cl h.ein (tP h h1 _)),h.onel (tP h h1 _),
   h.assoc ha (tP h h1 _) (zFO h cs xs h2 h.ein)]
 | [],_,a,_,ha=>by simp[img,h.oner ha]
 |_::_,[],a,_,ha=>by simp[img,h.oner ha]
theorem qS(h:Mon S m e){c:α}{cs:List α}{x:Int}{xs:Vec}(hc:S c)(gP:∀c∈cs,S c):img m (c::cs) (x::xs) e=m (pw m e c x.toNat) (img m cs xs e):=by simp only[img];rw[zEZ h cs xs gP (vG (fun a ha=>h.cl ha hc) _ h.ein)];rfl
theorem qB(m:α→α→α):∀(cs:List α)(n:Nat)(a:α),img m cs (zeros n) a=a
 | [],_,_=>by simp[img]
 |_::_,0,_=>by rfl
 |c::cs,n+1,a=>by simp only[zeros,Ju,img,G3,iter];exact qB m cs n a
theorem zHL(h:Mon S m e){g:α}(hg:S g):∀(cs ds:List α)(x:Vec),(∀c∈cs,S c)→(∀c∈ds,S c)→cs.length=ds.length→(∀(k:Nat) c d,cs[k]? =dJ c→ds[k]? =dJ d→m c g=m g d)→m (img m cs x e) g=m g (img m ds x e)
 | [],[],x,_,_,_,_=>by simp[img,h.onel hg,h.oner hg]
 |c::cs,d::ds,[],_,_,_,_=>by simp[img,h.onel hg,h.oner hg]
 |c::cs,d::ds,x::xs,hc,hd,hl,hp=>by
  have eG:S c:=hc c (by simp);have hd0:S d:=hd d (by simp);have gP:∀c∈cs,S c:=by grind
  have po:∀c∈ds,S c:=by grind
  have key:∀k,m (pw m e c k) g=m g (pw m e d k):=by
   intro k
   induction k with
   |zero=>simp[pw,iter,h.onel hg,h.oner hg]
   |succ k ih=>
    have h0:m c g=m g d:=hp 0 c d rfl rfl;rw[pw,wW,pw,wW];show m (m (pw m e c k) c) g=m g (m (pw m e d k) d);rw[h.assoc (tP h eG k) eG hg,h0,←h.assoc (tP h eG k) hg hd0,ih,h.assoc hg (tP h hd0 k) hd0]
  rw[qS h eG gP,qS h hd0 po,h.assoc (tP h eG _) (zFO h _ _ gP h.ein) hg,zHL h hg cs ds xs gP po (by grind) (fun k c d h1 h2=>hp (k+1) c d (by grind) (by grind)),
   ←h.assoc (tP h eG _) hg (zFO h _ _ po h.ein),key,h.assoc hg (tP h hd0 _) (zFO h _ _ po h.ein)]
theorem zP1{β:Type}{T:β→Prop}{n:β→β→β}{f:β}(h:Mon S m e)(h':Mon T n f)(φ:α→β)(gJ:∀a,S a→T (φ a))(h1:φ e=f)(hm:∀a b,S a→S b→φ (m a b)=n (φ a) (φ b)):∀(cs:List α)(x:Vec),(∀c∈cs,S c)→φ (img m cs x e)=img n (cs.map φ) x f
 | [],_,_=>by simp[img,h1]
 |c::cs,[],_=>by simp[img,h1]
 |c::cs,x::xs,hc=>by
  have eG:S c:=hc c (by simp);have gP:∀c∈cs,S c:=by grind
  have key:∀k,φ (pw m e c k)=pw n f (φ c) k:=by
   intro k
   induction k with
   |zero=>grind[pw,iter]
   |succ k ih=>
    grind[pw,wW,tP]
  rw[qS h eG gP,Jt,qS h' (gJ c eG) (by simp_all),hm _ _ (tP h eG _) (zFO h _ _ gP h.ein),key,zP1 h h' φ gJ h1 hm cs xs gP]
end
theorem xU:∀{P:Pcp},Ok P→V P (zeros P.length)
 | [],_=>rfl
 |l::P,h=>by simp only[Ok]at h;simp only[Jc,zeros,Ju,V];exact⟨by omega,xU h.2.2.2.2⟩
theorem yV:∀{P:Pcp},Ok P→ ∀{x y:Vec},V P x→V P y→V P (mul P x y)
 | [],_,_,_,hx,hy=>by rfl
 |l::P,h,[],_,hx,_=>by grind[V]
 |l::P,h,_::_,[],_,hy=>by grind[V]
 |l::P,h,a::x,b::y,hx,hy=>by
  simp only[Ok]at h;simp only[V]at hx hy;have h1:∀v,V P v→V P (img (mul P) l.cs v (zeros P.length)):=fun v hv=>kH (yV h.2.2.2.2) l.cs v h.2.2.2.1 (xU h.2.2.2.2)
  have h2:=yV h.2.2.2.2 (vG h1 b.toNat hx.2) hy.2;simp only[mul];split
  ·exact⟨by omega,yV h.2.2.2.2 h.2.1 h2⟩
  ·exact⟨by omega,h2⟩
def Rel{α:Type}(m:α→α→α)(e:α):Pcp→List α→Prop
 | [],s=>s=[]
 |l::P,s=>match s with
  | []=>False
  |g::s=>pw m e g l.o.toNat=img m s l.w e∧(∀(k:Nat) c d,s[k]? =dJ c→l.cs[k]? =dJ d→m c g=m g (img m s d e))∧Rel m e P s
section
variable {α:Type}{S:α→Prop}{m:α→α→α}{e:α}
theorem yCB(h:Mon S m e):∀(P:Pcp)(s:List α),Ok P→(∀g∈s,S g)→Rel m e P s→ ∀x y,V P x→V P y→img m s (mul P x y) e=m (img m s x e) (img m s y e)
 | [],s,_,_,hr,x,y,hx,hy=>by simp only[Rel]at hr;subst hr;simp[img,h.onel h.ein]
 |l::P,[],_,_,hr,_,_,_,_=>by grind[Rel]
 |l::P,g::s,_,_,_,[],_,hx,_=>by grind[V]
 |l::P,g::s,_,_,_,_::_,[],_,hy=>by grind[V]
 |l::P,g::s,hk,hs,hr,a::x,b::y,hx,hy=>by
  simp only[Ok]at hk;simp only[Rel]at hr;simp only[V]at hx hy;obtain⟨ho,hw,gA,gP,a9⟩:=hk;obtain⟨gD,gy,ez⟩:=hr;have hg:S g:=hs g (by simp);have pF:∀c∈s,S c:=by grind
  have gf:s.length=P.length:=by
   clear gD gy hx hy hw gA gP hs pF
   induction P generalizing s with
   |nil=>grind[Rel]
   |cons l P ih=>
    cases s with
    |nil=>grind[Rel]
    |cons c s=>grind[Rel,Ok]
  have ih:=yCB h P s a9 pF ez;have hφ:∀v,S (img m s v e):=fun v=>zFO h s v pF h.ein
  have hmP:∀{a b},V P a→V P b→V P (mul P a b):=yV a9;have b8:∀v,V P v→V P (img (mul P) l.cs v (zeros P.length)):=fun v hv=>kH hmP l.cs v gP (xU a9)
  have hσ:∀v,V P v→m (img m s v e) g=m g (img m s (img (mul P) l.cs v (zeros P.length)) e):=by
   intro v hv;have key:∀(cs:List Vec)(v:Vec)(acc:Vec),(∀c∈cs,V P c)→V P acc→img m s (img (mul P) cs v acc) e=img m (cs.map fun c=>img m s c e) v (img m s acc e):=by
    intro cs
    induction cs with
    |nil=>grind[img]
    |cons c cs ihc=>
     intro v acc hc hacc;cases v with
     |nil=>simp[img]
     |cons z v=>
      have eG:V P c:=hc c (by simp);have it:∀k acc,V P acc→img m s (iter k (fun v=>mul P v c) acc) e=iter k (fun v=>m v (img m s c e)) (img m s acc e):=by
       intro k
       induction k with
       |zero=>intro acc _;rfl
       |succ k ihk=>
        simp_all[iter]
      simp only[img,Jt];rw[ihc v _ (by simp_all) (vG (by grind) _ hacc),it _ _ hacc]
   rw[key l.cs v (zeros P.length) gP (xU a9),qB];refine zHL h hg s _ v pF (by simp_all) (by grind) ?_;intro k c d hc hd;simp only[K4,Kk]at hd;obtain⟨d',pS,rfl⟩:=hd
   grind
  have hσk:∀k v,V P v→m (img m s v e) (pw m e g k)=m (pw m e g k) (img m s (iter k (fun v=>img (mul P) l.cs v (zeros P.length)) v) e):=by
   intro k
   induction k with
   |zero=>intro v _;simp[pw,iter,h.onel (hφ v),h.oner (hφ v)]
   |succ k ihk=>
    intro v hv;rw[zSP h hg,←h.assoc (hφ v) hg (tP h hg k),hσ v hv,h.assoc hg (hφ _) (tP h hg k),ihk _ (b8 v hv),←h.assoc hg (tP h hg k) (hφ _)];rfl
  have fk:=tP h hg a.toNat;have mS:=tP h hg b.toNat;have ef:V P (iter b.toNat (fun v=>img (mul P) l.cs v (zeros P.length)) x):=vG b8 _ hx.2;have bK:m (img m (g::s) (a::x) e) (img m (g::s) (b::y) e)=m (pw m e g (a.toNat+b.toNat)) (img m s (mul P (iter b.toNat (fun v=>img (mul P) l.cs v (zeros P.length)) x) y) e):=by rw[qS h hg pF,qS h hg pF,h.assoc fk (hφ x) (h.cl mS (hφ y)),←h.assoc (hφ x) mS (hφ y),hσk _ _ hx.2,h.assoc mS (hφ _) (hφ y),←ih _ _ ef hy.2,←h.assoc fk mS (hφ _),zHK h hg]
  rw[bK];simp only[mul];split
  ·rename_i hge
   rw[qS h hg pF,ih _ _ hw (hmP ef hy.2),←gD,←h.assoc (tP h hg _) (tP h hg _) (hφ _),←zHK h hg]
   congr 2
   omega
  ·rw[qS h hg pF]
   congr 2
   omega
end
def yZ(n j:Nat):Vec:=(zeros n).set j 1
def sig(P:Pcp)(l:Lvl)(v:Vec):Vec:=img (mul P) l.cs v (zeros P.length)
def xK:Pcp→Prop
 | []=>True
 |l::P=>xK P∧Rel (mul P) (zeros P.length) P l.cs∧sig P l l.w=l.w∧ ∀j,j<P.length→mul P l.w (iter l.o.toNat (sig P l) (yZ P.length j))=mul P (yZ P.length j) l.w
theorem zDF(n:Nat):yZ (n+1) 0=1::zeros n:=rfl
theorem zFP(n j:Nat):yZ (n+1) (j+1)=0::yZ n j:=rfl
def xQ(n:Nat):List Vec:=(Jh n).map (yZ n)
theorem zNG(n:Nat):xQ (n+1)=(1::zeros n)::(xQ n).map (0::·):=by
 simp only[xQ,Q7,Jt,Uu,zDF]
 congr 1
theorem zDf:∀{P:Pcp},Ok P→ ∀{j:Nat},j<P.length→V P (yZ P.length j)
 | [],_,_,hj=>by simp at hj
 |l::P,h,0,_=>by grind[Ok,zDF,V,xU]
 |l::P,h,j+1,hj=>by simp only[Ok]at h;rw[Jc,zFP];simp only[V];exact⟨by omega,zDf h.2.2.2.2 (by grind)⟩
theorem zDg{l:Lvl}{P:Pcp}(h:Ok (l::P)){v:Vec}(_hv:V P v):V P (sig P l v):=by simp only[Ok]at h;exact kH (yV h.2.2.2.2) l.cs v h.2.2.2.1 (xU h.2.2.2.2)
theorem yP(l:Lvl)(P:Pcp)(a b:Int)(x y:Vec):mul (l::P) (a::x) (b::y)=if a+b≥l.o then(a+b-l.o)::mul P l.w (mul P (iter b.toNat (sig P l) x) y)else(a+b)::mul P (iter b.toNat (sig P l) x) y:=rfl
theorem zQC{n k:Nat}{c:Vec}(h:(xQ n)[k]? =dJ c):k<n∧c=yZ n k:=by
 simp only[xQ,K4,Kk]at h
 grind
theorem normal:∀(P:Pcp),Ok P→(∀Q,Q<:+P→Mon (V Q) (mul Q) (zeros Q.length))→ ∀x,V P x→img (mul P) (xQ P.length) x (zeros P.length)=x
 | [],_,_,x,hx=>by grind[V,img,zeros]
 |l::P,_,_,[],hx=>by grind[V]
 |l::P,h,hM,a::x,hx=>by
  have hMl:=hM (l::P) (List.suffix_refl _);have hMP:=hM P (by simp);have h':=h;simp only[Ok]at h;simp only[V]at hx;rw[Jc,zNG];have hz:V P (zeros P.length):=xU h.2.2.2.2;have tq:V (l::P) (1::zeros P.length):=by grind[V]
  have fw:∀c∈(xQ P.length).map (0::·),V (l::P) c:=by
   intro c hc;simp only[xQ,Uu,Ji,Kq]at hc;obtain⟨j,hj,rfl⟩:=hc;simp only[Function.comp,V]
   grind[zDf]
  have cm:V (l::P) (zeros (P.length+1)):=by grind[xU]
  rw[show zeros (P.length+1)=zeros (l::P).length from rfl];rw[qS hMl tq fw];have sz:∀k:Nat,iter k (sig P l) (zeros P.length)=zeros P.length:=by
   intro k
   induction k with
   |zero=>rfl
   |succ k ih=>grind[iter,sig,qB]
  have h1:∀k:Nat,(k:Int)<l.o→pw (mul (l::P)) (zeros (l::P).length) (1::zeros P.length) k=(k:Int)::zeros P.length:=by
   intro k
   induction k with
   |zero=>intro _;rfl
   |succ k ih=>
    intro hk;rw[pw,wW];show mul (l::P) (pw (mul (l::P)) (zeros (l::P).length) (1::zeros P.length) k) (1::zeros P.length)=_;rw[ih (by omega),yP,if_neg (by omega)];rw[sz,hMP.onel hz];rfl
  have h2:∀(cs:List Vec)(y acc:Vec),(∀c∈cs,V P c)→V P acc→img (mul (l::P)) (cs.map (0::·)) y (0::acc)=0::img (mul P) cs y acc:=by
   intro cs
   induction cs with
   |nil=>grind[img]
   |cons c cs ih=>
    intro y acc hc hacc;cases y with
    |nil=>simp[img]
    |cons z y=>
     have eG:V P c:=hc c (by simp);have it:∀(k:Nat)(acc:Vec),V P acc→iter k (fun v=>mul (l::P) v (0::c)) (0::acc)=0::iter k (fun v=>mul P v c) acc:=by
      intro k
      induction k with
      |zero=>intro _ _;rfl
      |succ k ihk=>
       intro acc hacc;simp only[iter];rw[yP,if_neg (by omega)];exact ihk _ (yV h.2.2.2.2 hacc eG)
     simp only[Jt,img];rw[it _ _ hacc,ih _ _ (by grind) (vG (by grind[yV]) _ hacc)]
  have pd:∀c∈xQ P.length,V P c:=by
   intro c hc;simp only[xQ,Ji,Kq]at hc;obtain⟨j,hj,rfl⟩:=hc
   grind[zDf]
  rw[h1 a.toNat (by omega),show zeros (l::P).length=0::zeros P.length from rfl,h2 _ _ _ pd hz,normal P h.2.2.2.2 (by grind) x hx.2,yP,if_neg (by omega)];simp only[G3,iter];rw[hMP.onel hx.2]
  grind
theorem zDh:∀(P:Pcp),Ok P→xK P→Grp (V P) (mul P) (zeros P.length)
 | [],_,_=>by
  refine⟨⟨fun _ _=>rfl,rfl,fun _ _ _=>rfl,?_,?_⟩,fun ha=>⟨[],rfl,rfl⟩⟩<;>
  ·intro a ha
   simp only[V]at ha;subst ha;rfl
 |l::P,h,hc=>by
  have h':=h;simp only[Ok]at h;simp only[xK]at hc;obtain⟨ho,hw,gA,gP,hP⟩:=h;obtain⟨dv,ma,bU,bR⟩:=hc;have N:=zDh P hP dv;have hM:∀Q,Q<:+P→Mon (V Q) (mul Q) (zeros Q.length):=by
   intro Q hQ;obtain⟨t,ht⟩:=hQ;have:Ok Q∧xK Q:=by
    clear N hw gA gP ma bU bR h'
    induction t generalizing P with
    |nil=>grind
    |cons a t ih=>
     simp at ht;subst ht;simp only[Ok]at hP;simp only[xK]at dv
     grind
   have gF:SizeOf.sizeOf Q≤SizeOf.sizeOf P:=by
    rw[←ht]
    clear N hw gA gP ma bU bR h' hP dv ht this
    induction t with
    |nil=>simp
    |cons a t ih=>grind
   exact(zDh Q this.1 this.2).toMon
  have hz:V P (zeros P.length):=xU hP;have σin:∀v,V P v→V P (sig P l v):=by grind[zDg]
  have σhom:∀x y,V P x→V P y→sig P l (mul P x y)=mul P (sig P l x) (sig P l y):=fun x y hx hy=>yCB N.toMon P l.cs hP gP ma x y hx hy
  have σz:sig P l (zeros P.length)=zeros P.length:=qB _ _ _ _;have itin:∀(k:Nat) v,V P v→V P (iter k (sig P l) v):=fun k v hv=>vG σin k hv
  have ithom:∀(k:Nat) x y,V P x→V P y→iter k (sig P l) (mul P x y)=mul P (iter k (sig P l) x) (iter k (sig P l) y):=by
   intro k
   induction k with
   |zero=>intro _ _ _ _;rfl
   |succ k ih=>simp_all[iter]
  have itz:∀k:Nat,iter k (sig P l) (zeros P.length)=zeros P.length:=by
   intro k
   induction k with
   |zero=>rfl
   |succ k ih=>grind[iter]
  have itw:∀k:Nat,iter k (sig P l) l.w=l.w:=by
   intro k
   induction k with
   |zero=>rfl
   |succ k ih=>grind[iter]
  have pd:∀c∈xQ P.length,V P c:=by
   intro c hc;simp only[xQ,Ji,Kq]at hc;obtain⟨j,hj,rfl⟩:=hc
   grind[zDf]
  have inner:∀x,V P x→mul P x l.w=mul P l.w (iter l.o.toNat (sig P l) x):=by
   intro x hx;have hnf:=normal P hP hM x hx;have mf:=zP1 N.toMon N.toMon (iter l.o.toNat (sig P l)) (by grind) (itz _) (by grind) (xQ P.length) x pd;rw[←hnf,mf];refine zHL N.toMon hw _ _ x pd (by simp_all) (by simp) ?_;intro k c d hc hd;rw[K4,Kk]at hd;obtain⟨c',px,rfl⟩:=hd;rw[hc]at px;simp at px;subst px;obtain⟨hk,rfl⟩:=zQC hc
   grind
  have e:∀(x y z:Vec)(b c:Int),V P x→V P y→V P z→0≤b→0≤c→
    mul P (iter c.toNat (sig P l) (mul P (iter b.toNat (sig P l) x) y)) z=mul P (iter (b+c).toNat (sig P l) x) (mul P (iter c.toNat (sig P l) y) z)∧
    mul P (iter c.toNat (sig P l) (mul P l.w (mul P (iter b.toNat (sig P l) x) y))) z=mul P l.w (mul P (iter (b+c).toNat (sig P l) x) (mul P (iter c.toNat (sig P l) y) z))∧
    (l.o≤b+c→mul P (iter (b+c-l.o).toNat (sig P l) x) (mul P l.w (mul P (iter c.toNat (sig P l) y) z))=mul P l.w (mul P (iter (b+c).toNat (sig P l) x) (mul P (iter c.toNat (sig P l) y) z))):=by
   intro x y z b c hx hy hz hb hcc;have dw:=itin b.toNat x hx;have hcy:=itin c.toNat y hy;have hbc:iter c.toNat (sig P l) (iter b.toNat (sig P l) x)=iter (b+c).toNat (sig P l) x:=by rw[←zEX];congr 1;omega
   have dy:=itin (b+c).toNat x hx;have e1:mul P (iter c.toNat (sig P l) (mul P (iter b.toNat (sig P l) x) y)) z=mul P (iter (b+c).toNat (sig P l) x) (mul P (iter c.toNat (sig P l) y) z):=by rw[ithom _ _ _ dw hy,hbc,N.assoc dy hcy hz]
   refine⟨e1,?_,?_⟩
   ·rw[ithom _ _ _ hw (N.cl dw hy),itw,N.assoc hw (itin _ _ (N.cl dw hy)) hz,e1]
   ·intro hge
    have bX:=N.cl hcy hz;rw[←N.assoc (itin _ x hx) hw bX,inner _ (itin _ x hx),←zEX,N.assoc hw (itin _ x hx) bX]
    congr 3
    omega
  refine⟨⟨by grind[yV],xU h',?_,?_,?_⟩,?_⟩
  ·intro A B C hA hB hC
   match A,B,C,hA,hB,hC with
   |a::x,b::y,c::z,hA,hB,hC=>
    simp only[V]at hA hB hC;obtain⟨e1,e2,e3⟩:=e x y z b c hA.2 hB.2 hC.2 hB.1.1 hC.1.1
    by_cases c1:a+b≥l.o<;>by_cases c2:b+c≥l.o
    ·rw[yP,if_pos c1,yP l P b c,if_pos c2,yP,yP,e2,e3 c2]
     grind
    ·rw[yP,if_pos c1,yP l P b c,if_neg c2,yP,yP,e2,if_neg (by omega),if_pos (by omega)]
     grind
    ·rw[yP,if_neg c1,yP l P b c,if_pos c2,yP,yP,e1,e3 c2,if_pos (by omega),if_neg (by omega)]
     grind
    ·rw[yP,if_neg c1,yP l P b c,if_neg c2,yP,yP,e1]
     grind
  ·intro A hA
   match A,hA with
   |a::x,hA=>
    simp only[V]at hA;show mul (l::P) (0::zeros P.length) (a::x)=_;rw[yP,if_neg (by omega),itz,N.onel hA.2,Lh]
  ·intro A hA
   match A,hA with
   |a::x,hA=>
    simp only[V]at hA;show mul (l::P) (a::x) (0::zeros P.length)=_;rw[yP,if_neg (by omega)];simp only[G3,iter];rw[N.oner hA.2,Lu]
  ·intro A hA
   match A,hA with
   |a::x,hA=>
    simp only[V]at hA
    by_cases ha:a=0
    ·obtain⟨y,hy,h1⟩:=N.inv hA.2
     refine⟨0::y,by simp only[V];grind,?_⟩;rw[yP,if_neg (by omega)];simp only[G3,iter];rw[h1,ha];rfl
    ·have bc:=itin (l.o-a).toNat x hA.2
     obtain⟨y,hy,h1⟩:=N.inv (N.cl hw bc);refine⟨(l.o-a)::y,by simp only[V];grind,?_⟩;rw[yP,if_pos (by omega),←N.assoc hw bc hy,h1,show a+(l.o-a)-l.o=0 by omega];rfl
termination_by P=>P
end Go.Pc

namespace Go.Pc
end Go.Pc

namespace Go.Pc
end Go.Pc

namespace Go.Pc
end Go.Pc

namespace Go.Pc
end Go.Pc

namespace Go.Pc
end Go.Pc

namespace Go.Pc
end Go.Pc

namespace Go.Pc
section
variable {A:Type}
end
end Go.Pc

namespace Go.Pc
end Go.Pc

namespace Go.Pc
end Go.Pc

namespace Go.Pc
end Go.Pc

namespace Go.Pl
open Go Go.Ab
theorem bs{α β:Type}(x:α)(f:α→Option β):(dJ x).bind f=f x:=by simp only[Option.bind_some]
theorem zK{α:Type}(x y:α):cond dL x y=x:=by simp only[cond_true]
theorem zL{α:Type}(x y:α):cond dM x y=y:=by simp only[cond_false]
theorem zF{n:Int}(h1:-9223372036854775808≤n)(h2:n≤9223372036854775807):rng n=dJ n:=by unfold rng;rw[if_pos];simp only[inR,J2,decide_eq_true_eq];omega
theorem uZ{α:Type}(xs:List α)(i:Nat):ixO xs (i:Int)=xs[i]?:=by unfold ixO;rw[if_pos (by omega)];simp
theorem zAy{α:Type}{xs:List α}{i:Nat}(h:i<xs.length):ixO xs (i:Int)=dJ xs[i]:=by rw[uZ];exact J7 h
theorem yK{n:Nat}(h:n≤68719476736):yG (n:Int)=dJ n:=by unfold yG;rw[if_pos (by omega)];simp
theorem zP{α:Type}{xs ys:List α}(h:xs.length+ys.length≤68719476736):zZ xs ys=dJ (xs++ys):=by unfold zZ;rw[if_pos h]
theorem zM{σ ρ:Type}{body:σ→Option (σ⊕ρ)}{r:ρ}(S:Nat→σ)(n:Nat)(h:∀i,i<n→body (S i)=dJ (.inl (S (i+1))))(he:body (S n)=dJ (.inr r)):zH body (S 0)=dJ r:=by
 have key:∀k i,i+k=n→zH body (S i)=dJ r:=by
  intro k
  induction k with
  |zero=>intro i hi;rw[yQ,show i=n from by omega,he]
  |succ k ih=>intro i hi;rw[yQ,h i (by omega)];exact ih (i+1) (by omega)
 exact key n 0 (by omega)
theorem uK{σ ρ:Type}{body:σ→Option (σ⊕ρ)}{Q:ρ→Prop}(I:Nat→σ→Prop)(n:Nat)(h:∀i s,i<n→I i s→(∃s',body s=dJ (.inl s')∧I (i+1) s')∨ ∃r,body s=dJ (.inr r)∧Q r)
  (he:∀s,I n s→ ∃r,body s=dJ (.inr r)∧Q r){s:σ}(h0:I 0 s):∃r,zH body s=dJ r∧Q r:=by
 have key:∀k i s,i+k=n→I i s→ ∃r,zH body s=dJ r∧Q r:=by
  intro k
  induction k with
  |zero=>
   intro i s hi hs;obtain rfl:i=n:=by omega
   obtain⟨r,h1,h2⟩:=he s hs;exact⟨r,by rw[yQ,h1],h2⟩
  |succ k ih=>
   intro i s hi hs;rcases h i s (by omega) hs with⟨s',h1,h2⟩|⟨r,h1,h2⟩
   ·rw[yQ,h1];exact ih (i+1) s' (by omega) h2
   ·exact⟨r,by rw[yQ,h1],h2⟩
 exact key n 0 s (by omega) h0
def zMb{ρ:Type}:Option ρ→Unit⊕ρ
 |none=>.inl ()
 |some r=>.inr r
theorem cs(i:Nat):(i:Int)+1=((i+1:Nat):Int):=by omega
theorem zJ0{ρ:Type}{body:Int→Option (Int⊕(Unit⊕ρ))}(n:Nat)(t:Nat→Option ρ)(i0:Nat)(hn:i0≤n)
  (h:∀i,i0≤i→i<n→(∀j,i0≤j→j<i→t j=dK)→body (i:Int)=dJ (match t i with|none=>.inl ((i+1:Nat):Int)|some r=>.inr (.inr r)))
  (he:(∀j,i0≤j→j<n→t j=dK)→body (n:Int)=dJ (.inr (.inl ()))):
  zH body (i0:Int)=dJ (zMb ((Kt i0 (n-i0)).findSome? t)):=by
 have key:∀k i,i0≤i→i+k=n→(∀j,i0≤j→j<i→t j=dK)→zH body (i:Int)=dJ (zMb ((Kt i k).findSome? t)):=by
  intro k
  induction k with
  |zero=>
   intro i hi hk hp;obtain rfl:i=n:=by omega
   rw[yQ,he hp];rfl
  |succ k ih=>
   intro i hi hk hp;rw[yQ,h i hi (by omega) hp,Jav,Qz];cases ht:t i with
   |some r=>rfl
   |none=>
    simp only
    exact ih (i+1) (by omega) (by omega) fun j h1 h2=>by
     rcases Jn j i with h3|h3
     ·exact hp j h1 h3
     ·rw[show j=i from by omega];exact ht
 exact key (n-i0) i0 (Jk _) (by omega) fun j h1 h2=>by omega
theorem zSQ{n:Nat}{b:Nat→Bool}:zMb ((Kt 0 n).findSome? (fun i=>if b i then dK else dJ dM))=if(Jh n).all b then .inl ()else .inr dM:=by
 have key:∀l:List Nat,zMb (l.findSome? (fun i=>if b i then dK else dJ dM))=if l.all b then .inl ()else .inr dM:=by
  intro l
  induction l with
  |nil=>rfl
  |cons x l ih=>
   rw[Qz,U6];cases hb:b x
   ·rfl
   ·simpa using ih
 rw[key,L7]
theorem zJ1{body:Int→Option (Int⊕(Unit⊕Bool))}(n:Nat)(b:Nat→Bool)
  (h:∀i,i<n→(∀j,j<i→b j=dL)→body (i:Int)=dJ (if b i then .inl ((i+1:Nat):Int)else .inr (.inr dM)))
  (he:(∀j,j<n→b j=dL)→body (n:Int)=dJ (.inr (.inl ()))):
  zH body 0=dJ (if(Jh n).all b then .inl ()else .inr dM):=by
 have:=zJ0 (body:=body) n (fun i=>if b i then dK else dJ dM) 0 (Kf _) (fun i _ hi hp=>by
  rw[h i hi fun j hj=>by
   have:=hp j (Kf _) hj;split at this
   ·assumption
   ·cases this]
  cases b i<;>rfl) (fun hp=>he fun j hj=>by
   have:=hp j (Kf _) hj;split at this
   ·assumption
   ·cases this)
 rw[Qn]at this;exact this.trans (congrArg dJ (zSQ (n:=n) (b:=b)))
theorem zW2{α:Type}[BEq α]{t:α→α→Option Bool}{body:Int→Option (Int⊕(Unit⊕Bool))}{x y:List α}
  (hb:∀i,body i=cond (decide (i<(x.length:Int))) ((ixO x i).bind fun v1=>(ixO y i).bind fun v2=>(t v1 v2).bind fun r3=>cond (!r3) (dJ (.inr (.inr dM))) ((rng (i+1)).bind fun v4=>dJ (.inl v4))) (dJ (.inr (.inl ()))))
  (hl:x.length≤68719476736)(ba:x.length=y.length)(ht:∀u∈x,∀v∈y,t u v=dJ (u==v)):zH body 0=dJ (if x==y then .inl ()else .inr dM):=by
 have h:=zJ1 (body:=body) x.length (fun i=>match x[i]?,y[i]? with|some u,dJ v=>u==v|_,_=>dL) (fun i hi _=>by
  have hH:i<y.length:=by omega
  rw[hb];simp only[dP (show((i:Int))<(x.length:Int)from by omega),zK];rw[zAy hi,zAy hH];simp only[bs,ht _ (Ke hi) _ (Ke hH),J7 hi,J7 hH];cases x[i]==y[i]
  ·rfl
  ·simp only[Ja,zL,if_true]
   rw[zF (by omega) (by omega),cs];rfl) (fun _=>by
  rw[hb];simp only[dO (show¬((x.length:Int))<(x.length:Int)from by omega),zL])
 rw[h]
 congr 2
 have key:∀(x y:List α),x.length=y.length→((Jh x.length).all (fun i=>match x[i]?,y[i]? with|some u,dJ v=>u==v|_,_=>dL))=(x==y):=by
  intro x
  induction x with
  |nil=>intro y hy;cases y with|nil=>rfl|cons _ _=>simp at hy
  |cons u x ih=>
   intro y hy;cases y with
   |nil=>simp at hy
   |cons v y=>
    rw[Jc,Q7,U6,List.all_map];simp only[Uj,Function.comp_def,Qy];rw[ih y (by simpa using hy)];rfl
 rw[key x y ba]
theorem zMc{α:Type}[BEq α]{t:α→α→Option Bool}{f:Option Bool}{body:Int→Option (Int⊕(Unit⊕Bool))}{x y:List α}
  (hf:f=cond ((x.length:Int) != (y.length:Int)) (dJ dM) ((zH body 0).bind fun r=>match r with|.inl _=>dJ dL|.inr r=>dJ r))
  (hb:∀i,body i=cond (decide (i<(x.length:Int))) ((ixO x i).bind fun v1=>(ixO y i).bind fun v2=>(t v1 v2).bind fun r3=>cond (!r3) (dJ (.inr (.inr dM))) ((rng (i+1)).bind fun v4=>dJ (.inl v4))) (dJ (.inr (.inl ()))))
  (hl:x.length≤68719476736)(ht:∀u∈x,∀v∈y,t u v=dJ (u==v)):f=dJ (x==y):=by
 rw[hf]
 by_cases ba:x.length=y.length
 ·rw[zW2 hb hl ba ht]
  have:((x.length:Int) != (y.length:Int))=dM:=by simp[ba]
  rw[this];cases x==y<;>rfl
 ·have:((x.length:Int) != (y.length:Int))=dL:=by simp;omega
  rw[this];have h2:(x==y)=dM:=by
   have key:∀(x y:List α),x.length≠y.length→(x==y)=dM:=by
    intro x
    induction x with
    |nil=>intro y hy;cases y with|nil=>simp at hy|cons _ _=>rfl
    |cons u x ih=>
     intro y hy;cases y with
     |nil=>rfl
     |cons v y=>
      show(u==v&&x==y)=dM;rw[ih y (by simpa using hy),Bool.and_false]
   exact key x y ba
  rw[h2];rfl
end Go.Pl

namespace Go.Pl
open Go Go.Ab
def sm{α:Type}(c:α→Nat):List α→Nat
 | []=>0
 |x::xs=>c x+sm c xs
end Go.Pl

namespace Go.Pl
open Go Go.Ab Go.Wk
abbrev VL{α:Type}(V:α→Prop)(xs:List α):Prop:=xs.length≤maxLen∧ ∀x∈xs,V x
abbrev c1(x:List Int):Nat:=x.length
abbrev c2(x:List (List Int)):Nat:=x.length+sm c1 x
abbrev c3(x:List (List (List Int))):Nat:=x.length+sm c2 x
abbrev S1(x:List Int):Prop:=c1 x≤1048576
abbrev S2(x:List (List Int)):Prop:=c2 x≤1048576
abbrev S3(x:List (List (List Int))):Prop:=c3 x≤1048576
theorem S3.len{x:List (List (List Int))}(h:S3 x):x.length≤1048576:=by grind
def zYH(x:SPr):Prop:=S1 x.zA∧S2 x.zJ∧S3 x.zB
def yAe(x:zC):Prop:=S3 x.zG
end Go.Pl

namespace Go.Pl
open Go Go.Ab Go.Wk
def IsB(o:Option Bool)(P:Prop):Prop:=(o=dJ dL∧P)∨(o=dJ dM∧ ¬P)
theorem IsB.iff{o:Option Bool}{P Q:Prop}(h:IsB o P)(hpq:P↔Q):IsB o Q:=by grind
theorem IsB.of_bool{b:Bool}{P:Prop}(h:b=dL↔P):IsB (dJ b) P:=by
 cases b
 ·exact .inr (by grind)
 ·exact .inl ⟨rfl,h.1 rfl⟩
theorem chk{ρ:Type}{body:Int→Option (Int⊕(Unit⊕ρ))}(n i0:Nat)(hn:i0≤n)(P:Nat→Prop)(bad:Nat→ρ)
  (h:∀i,i0≤i→i<n→(∀j,i0≤j→j<i→P j)→(body (i:Int)=dJ (.inl ((i+1:Nat):Int))∧P i)∨(body (i:Int)=dJ (.inr (.inr (bad i)))∧ ¬P i))
  (he:body (n:Int)=dJ (.inr (.inl ()))):
  (zH body (i0:Int)=dJ (.inl ())∧ ∀j,i0≤j→j<n→P j)∨ ∃i,i0≤i∧i<n∧zH body (i0:Int)=dJ (.inr (bad i))∧ ¬P i:=by
 have key:∀k i,i0≤i→i+k=n→(∀j,i0≤j→j<i→P j)→(zH body (i:Int)=dJ (.inl ())∧ ∀j,i0≤j→j<n→P j)∨ ∃q,i0≤q∧q<n∧zH body (i:Int)=dJ (.inr (bad q))∧ ¬P q:=by
  intro k
  induction k with
  |zero=>
   intro i hi hk hp;obtain rfl:i=n:=by omega
   grind[yQ]
  |succ k ih=>
   intro i hi hk hp;rcases h i hi (by omega) hp with⟨h1,h2⟩|⟨h1,h2⟩
   ·have:=ih (i+1) (by omega) (by omega) (by grind)
    rw[yQ,h1];exact this
   grind[yQ]
 exact key (n-i0) i0 (Jk _) (by omega) fun j a b=>by omega
theorem qI{f:Option Bool}{body:Int→Option (Int⊕(Unit⊕Bool))}(n:Nat)(P:Nat→Prop)
  (hf:f=(zH body 0).bind fun r=>match r with|.inl _=>dJ dL|.inr r=>dJ r)
  (h:∀i,i<n→(∀j,j<i→P j)→(body (i:Int)=dJ (.inl ((i+1:Nat):Int))∧P i)∨(body (i:Int)=dJ (.inr (.inr dM))∧ ¬P i))
  (he:body (n:Int)=dJ (.inr (.inl ()))):IsB f (∀i,i<n→P i):=by
 rcases chk n 0 (Kf _) P (fun _=>dM) (fun i _ hi hp=>h i hi fun j hj=>hp j (Kf _) hj) he with⟨h1,h2⟩|⟨i,_,hi,h1,h2⟩
 ·refine .inl ⟨?_,fun i hi=>h2 i (Kf _) hi⟩
  rw[hf];rw[show((0:Nat):Int)=0 from rfl]at h1;rw[h1,bs]
 ·refine .inr ⟨?_,fun hp=>h2 (hp i hi)⟩
  rw[hf];rw[show((0:Nat):Int)=0 from rfl]at h1;rw[h1,bs]
theorem uP{o:Option Bool}{P:Prop}{ρ:Type}{bad:ρ}{i:Nat}{g:Option (Int⊕(Unit⊕ρ))}(h:IsB o P)(hi:i<9223372036854775807)
  (hg:g=o.bind fun r=>cond (!r) (dJ (.inr (.inr bad))) ((rng ((i:Int)+1)).bind fun v=>dJ (.inl v))):(g=dJ (.inl ((i+1:Nat):Int))∧P)∨(g=dJ (.inr (.inr bad))∧ ¬P):=by
 subst hg;rcases h with⟨h1,h2⟩|⟨h1,h2⟩
 ·refine .inl ⟨?_,h2⟩
  rw[h1,bs,Ja,zL,zF (by omega) (by omega),bs,cs]
 grind
theorem yI{i n:Nat}(h:i<n):decide ((i:Int)<(n:Int))=dL:=by grind
theorem vR{n:Nat}:decide ((n:Int)<(n:Int))=dM:=by simp
theorem sT(x a b:Int):IsB (zLe x a b) (a≤x∧x≤b):=by
 unfold zLe
 by_cases h:x≥a
 ·rw[dP h,zK];grind[IsB.of_bool]
 ·rw[dO h,zL];exact .inr ⟨rfl,by omega⟩
theorem zB6(x a b:Int):IsB (zIU x a b) (a≤x∧x≤b):=sT x a b
def Prime(p:Int):Prop:=p=2∨p=3∨p=5∨p=7
theorem zCu(x:Int):IsB (zRk x) (Prime x):=by
 unfold zRk Prime
 by_cases h2:x=2
 ·subst h2;exact .inl ⟨rfl,.inl rfl⟩
 ·rw[show(x==2)=dM from by grind,zL]
  by_cases h3:x=3
  ·subst h3;exact .inl (by simp)
  ·rw[show(x==3)=dM from by grind,zL]
   by_cases h5:x=5
   ·subst h5;exact .inl (by simp)
   ·rw[show(x==5)=dM from by grind,zL]
    grind[IsB.of_bool]
theorem zHM(x:Int):IsB (zOo x) (Prime x):=zCu x
abbrev at0(v:List Int)(i:Nat):Int:=v.getD i 0
theorem yF{v:List Int}{i:Nat}(h:i<v.length):ixO v (i:Int)=dJ (at0 v i):=by rw[zAy h,at0,J3,J7 h];rfl
def yAf(os v:List Int):Prop:=v.length=os.length∧ ∀i,i<v.length→0≤at0 v i∧at0 v i≤at0 os i-1
def Exp(os v:List Int)(k:Nat):Prop:=yAf os v∧ ∀i,i≤k→at0 v i=0
def Os(os:List Int):Prop:=os.length≤14∧ ∀i,i<os.length→Prime (at0 os i)
theorem Prime.pos{p:Int}(h:Prime p):2≤p∧p≤7:=by unfold Prime at h;omega
theorem zFQ{x:SPr}{v:List Int}(ho:Os x.zA):IsB (zXl x v) (yAf x.zA v):=by
 unfold zXl
 by_cases h:v.length=x.zA.length
 ·rw[show((v.length:Int) != (x.zA.length:Int))=dM from by simp[h],zL]
  have h6:=ho.1;refine(qI v.length (fun i=>0≤at0 v i∧at0 v i≤at0 x.zA i-1) rfl (fun i hi _=>?_) ?_).iff ⟨fun g=>⟨h,g⟩,fun g=>g.2⟩
  ·have hp:=(ho.2 i (by omega)).pos
   refine uP (sT _ _ _) (by omega) ?_;unfold zQk;rw[yI hi,zK,yF hi,bs,yF (by omega),bs,zF (by omega) (by omega),bs]
  ·unfold zQk
   simp
 ·rw[show((v.length:Int) != (x.zA.length:Int))=dL from by simp;omega,zK]
  exact .inr ⟨rfl,fun g=>h g.1⟩
theorem zGz{v:List Int}(hl:v.length≤14):IsB (f_U v) (∀i,i<v.length→at0 v i=0):=by
 refine qI v.length (fun i=>at0 v i=0) rfl (fun i hi _=>?_) ?_
 ·refine uP (o:=dJ (at0 v i==0)) (IsB.of_bool (by simp)) (by omega) ?_
  unfold zMX;rw[yI hi,zK,yF hi,bs,bs];rfl
 ·unfold zMX
  simp
theorem zCJ{x:SPr}{k:Nat}{v:List Int}(ho:Os x.zA)(hk:k<x.zA.length):IsB (zUr x k v) (Exp x.zA v k):=by
 have h6:=ho.1;unfold zUr;rcases zFQ (v:=v) ho with⟨h1,h2⟩|⟨h1,h2⟩
 ·have hl:=h2.1
  rw[h1,bs,zK,zF (by omega) (by omega),bs];have hs:zQ v 0 ((k:Int)+1)=dJ (v.take (k+1)):=by
   unfold zQ
   grind
  rw[hs,bs];have hb:=zGz (v:=v.take (k+1)) (by grind);have cP:(∀i,i<(v.take (k+1)).length→at0 (v.take (k+1)) i=0)↔Exp x.zA v k:=by
   have e:∀i,i≤k→at0 (v.take (k+1)) i=at0 v i:=by grind
   rw[L4,Uk (by omega)];exact⟨fun g=>⟨h2,by grind⟩,fun g i hi=>by rw[e i (by omega)];exact g.2 i (by omega)⟩
  grind
 ·rw[h1,bs,zL]
  exact .inr ⟨rfl,fun g=>h2 g.1⟩
theorem zDi{os v:List Int}{k:Nat}(ho:Os os)(hk:k<os.length):IsB (zOp os v k) (Exp os v k):=by
 have h6:=ho.1;unfold zOp
 by_cases h:v.length=os.length
 ·rw[show((v.length:Int) != (os.length:Int))=dM from by simp[h],zL]
  refine(qI v.length (fun i=>(0≤at0 v i∧at0 v i≤at0 os i-1)∧(i≤k→at0 v i=0)) rfl (fun i hi _=>?_) ?_).iff ⟨fun g=>⟨⟨h,by grind⟩,by grind⟩,fun g i hi=>⟨g.1.2 i hi,fun hk=>g.2 i hk⟩⟩
  ·have hp:=(ho.2 i (by omega)).pos
   unfold zMS;rw[yI hi,zK,yF hi,bs,yF (by omega),bs,zF (by omega) (by omega),bs];rcases zB6 (at0 v i) 0 (at0 os i-1)with⟨h1,h2⟩|⟨h1,h2⟩
   ·rw[h1,bs,Ja,zL]
    by_cases h3:(i:Int)≤(k:Int)
    ·rw[dP h3,zK,bs]
     by_cases h4:at0 v i=0
     ·rw[show(at0 v i != 0)=dM from by grind,zL,zF (by omega) (by omega),bs,cs]
      grind
     grind
    ·rw[dO h3,zL,zF (by omega) (by omega),bs,cs]
     grind
   grind
  ·unfold zMS
   simp
 ·rw[show((v.length:Int) != (os.length:Int))=dL from by simp;omega,zK]
  exact .inr ⟨rfl,fun g=>h g.1.1⟩
end Go.Pl

namespace Go.Pl
open Go Go.Ab Go.Wk
theorem yDY{σ ρ:Type}{body:σ→Option (σ⊕(Unit⊕ρ))}(S:Nat→σ)(n i0:Nat)(hn:i0≤n)(P:Nat→Prop)(bad:Nat→ρ)
  (h:∀i,i0≤i→i<n→(∀j,i0≤j→j<i→P j)→(body (S i)=dJ (.inl (S (i+1)))∧P i)∨(body (S i)=dJ (.inr (.inr (bad i)))∧ ¬P i))
  (he:body (S n)=dJ (.inr (.inl ()))):
  (zH body (S i0)=dJ (.inl ())∧ ∀j,i0≤j→j<n→P j)∨ ∃i,i0≤i∧i<n∧zH body (S i0)=dJ (.inr (bad i))∧ ¬P i:=by
 have key:∀k i,i0≤i→i+k=n→(∀j,i0≤j→j<i→P j)→(zH body (S i)=dJ (.inl ())∧ ∀j,i0≤j→j<n→P j)∨ ∃q,i0≤q∧q<n∧zH body (S i)=dJ (.inr (bad q))∧ ¬P q:=by
  intro k
  induction k with
  |zero=>
   intro i hi hk hp;obtain rfl:i=n:=by omega
   grind[yQ]
  |succ k ih=>
   intro i hi hk hp;rcases h i hi (by omega) hp with⟨h1,h2⟩|⟨h1,h2⟩
   ·have:=ih (i+1) (by omega) (by omega) (by grind)
    rw[yQ,h1];exact this
   grind[yQ]
 exact key (n-i0) i0 (Jk _) (by omega) fun j a b=>by omega
theorem zAQ{a b:Int}(h:a=b):(a != b)=dM:=by simp[h]
theorem zA7{a b:Int}(h:a≠b):(a != b)=dL:=by simp[h]
def pr(os:List Int):Nat→Int
 |0=>1
 |i+1=>pr os i*at0 os i
def cp(os:List Int):Nat→Int
 |0=>1
 |i+1=>if cp os i≤729 then cp os i*at0 os i else cp os i
theorem zHN{os:List Int}:∀{i:Nat},(∀j,j<i→Prime (at0 os j))→1≤pr os i
 |0,_=>by simp[pr]
 |i+1,h=>by have h1:=zHN (os:=os) (i:=i) (by grind);have h2:=(h i (by omega)).pos;simp only[pr];have:(1:Int)*1≤pr os i*at0 os i:=Lg h1 (by omega) (by omega) (by omega);omega
theorem zP2{os:List Int}{i:Nat}(h:∀j,j≤i→Prime (at0 os j)):pr os i≤pr os (i+1):=by have h1:=zHN (os:=os) (i:=i) (by grind);have h2:=(h i (Jk _)).pos;simp only[pr];have:pr os i*1≤pr os i*at0 os i:=Lz (by omega) (by omega);omega
theorem zP3{os:List Int}{n:Nat}(h:∀j,j<n→Prime (at0 os j)):∀k,k≤n→pr os (n-k)≤pr os n
 |0,_=>Int.le_refl _
 |k+1,hk=>by
  have h1:=zP3 h k (by omega);have h2:=zP2 (os:=os) (i:=n-(k+1)) (by grind)
  grind
theorem zSR{os:List Int}:∀{i:Nat},(∀j,j<i→Prime (at0 os j))→(cp os i=pr os i∧pr os i≤729∨729<cp os i∧cp os i≤5103∧729<pr os i)
 |0,_=>by simp[cp,pr]
 |i+1,h=>by
  have h0:∀j,j<i→Prime (at0 os j):=by grind
  have h2:=(h i (by omega)).pos;have h3:=zP2 (os:=os) (i:=i) (by grind);have aU:=zHN h0;simp only[cp];rcases zSR h0 with⟨h1,h4⟩|⟨h1,h4,h5⟩
  ·rw[h1,if_pos h4]
   have h6:pr os i*at0 os i≤729*7:=Lg h4 h2.2 (by omega) (by omega);simp only[pr]at h3 ⊢
   grind
  omega
def zG0(x:SPr)(i:Nat):Prop:=Exp x.zA (x.zJ.getD i []) i∧(x.zB.getD i []).length+i+1=x.zA.length∧ ∀j,j<(x.zB.getD i []).length→Exp x.zA ((x.zB.getD i []).getD j []) i
structure zEi (x:SPr):Prop where
 os:True∧ ∀i,i<x.zA.length→Prime (at0 x.zA i)
 pl:x.zJ.length=x.zA.length
 cl:x.zB.length=x.zA.length
 tl:∀i,i<x.zA.length→zG0 x i
structure Pres (x:SPr):Prop where
 os:Os x.zA
 pl:x.zJ.length=x.zA.length
 cl:x.zB.length=x.zA.length
 tl:∀i,i<x.zA.length→zG0 x i
theorem Pres.w{x:SPr}(h:Pres x):zEi x:=⟨⟨trivial,h.os.2⟩,h.pl,h.cl,h.tl⟩
structure sU (x:SPr):Prop extends Pres x where
 n6:x.zA.length≤6
 pr:pr x.zA x.zA.length≤729
theorem zT{α:Type}{v:List α}{i:Nat}(d:α)(h:i<v.length):ixO v (i:Int)=dJ (v.getD i d):=by grind[zAy]
theorem zNH{x:SPr}(ho:Os x.zA)(hp:x.zJ.length=x.zA.length)(hc:x.zB.length=x.zA.length){i:Nat}(hi:i<x.zA.length):
  (zOw x i=dJ (.inl ((i+1:Nat):Int))∧zG0 x i)∨(zOw x i=dJ (.inr (.inr dM))∧ ¬zG0 x i):=by
 have h6:=ho.1;unfold zOw;rw[yI hi,zK,zT [] (by omega),bs];rcases zCJ (v:=x.zJ.getD i []) ho hi with⟨h1,h2⟩|⟨h1,h2⟩
 ·rw[h1,bs,Ja,zL,zT [] (by omega),bs,zF (by omega) (by omega),bs,zF (by omega) (by omega),bs]
  by_cases hl:(x.zB.getD i []).length+i+1=x.zA.length
  ·rw[zAQ (by omega),zL,bs]
   rcases chk (body:=zUs x i (x.zB.getD i [])) (x.zB.getD i []).length 0 (Kf _) (fun j=>Exp x.zA ((x.zB.getD i []).getD j []) i) (fun _=>dM) (fun j _ hj _=>by
     refine uP (zCJ ho hi) (by omega) ?_;unfold zUs;rw[yI hj,zK,zT [] hj,bs]) (by
     unfold zUs;simp)with⟨g1,g2⟩|⟨j,_,hj,g1,g2⟩
   ·rw[show((0:Nat):Int)=0 from rfl]at g1
    rw[g1,bs];simp only
    rw[zF (by omega) (by omega),bs,cs];exact .inl ⟨rfl,h2,hl,by grind⟩
   ·rw[show((0:Nat):Int)=0 from rfl]at g1
    rw[g1,bs];exact .inr ⟨rfl,fun g=>g2 (g.2.2 j hj)⟩
  ·rw[zA7 (by omega),zK]
   exact .inr ⟨rfl,fun g=>hl g.2.1⟩
 ·rw[h1,bs,Jy,zK]
  exact .inr ⟨rfl,fun g=>h2 g.1⟩
theorem zNI{x:SPr}(ho:Os x.zA)(hp:x.zJ.length=x.zA.length)(hc:x.zB.length=x.zA.length){i:Nat}(hi:i<x.zA.length):
  (zLd x i=dJ (.inl ((i+1:Nat):Int))∧zG0 x i)∨(zLd x i=dJ (.inr (.inr dM))∧ ¬zG0 x i):=by
 have h6:=ho.1;unfold zLd;rw[yI hi,zK,zT [] (by omega),bs];rcases zDi (v:=x.zJ.getD i []) ho hi with⟨h1,h2⟩|⟨h1,h2⟩
 ·rw[h1,bs,Ja,zL,zT [] (by omega),bs,zF (by omega) (by omega),bs,zF (by omega) (by omega),bs]
  by_cases hl:(x.zB.getD i []).length+i+1=x.zA.length
  ·rw[zAQ (by omega),zL]
   rcases chk (body:=zOq x i) (x.zB.getD i []).length 0 (Kf _) (fun j=>Exp x.zA ((x.zB.getD i []).getD j []) i) (fun _=>dM) (fun j _ hj _=>by
     refine uP (zDi ho hi) (by omega) ?_;unfold zOq;rw[zT [] (by omega),bs,yI hj,zK,bs,zT [] hj,bs]) (by
     unfold zOq;rw[zT [] (by omega),bs,vR,zL])with⟨g1,g2⟩|⟨j,_,hj,g1,g2⟩
   ·rw[show((0:Nat):Int)=0 from rfl]at g1
    rw[g1,bs];simp only
    rw[zF (by omega) (by omega),bs,cs];exact .inl ⟨rfl,h2,hl,by grind⟩
   ·rw[show((0:Nat):Int)=0 from rfl]at g1
    rw[g1,bs];exact .inr ⟨rfl,fun g=>g2 (g.2.2 j hj)⟩
  ·rw[zA7 (by omega),zK]
   exact .inr ⟨rfl,fun g=>hl g.2.1⟩
 ·rw[h1,bs,Jy,zK]
  exact .inr ⟨rfl,fun g=>h2 g.1⟩
theorem zMd{x:SPr}(h6:x.zA.length≤6):
  (zH (zOv x) (1,0)=dJ (.inl ())∧Os x.zA∧pr x.zA x.zA.length≤729)∨(zH (zOv x) (1,0)=dJ (.inr dM)∧ ¬(Os x.zA∧pr x.zA x.zA.length≤729)):=by
 rcases yDY (body:=zOv x) (fun i=>(pr x.zA i,(i:Int))) x.zA.length 0 (Kf _) (fun i=>Prime (at0 x.zA i)∧pr x.zA (i+1)≤729) (fun _=>dM) (fun i _ hi pf=>by
   have hp:∀j,j<i→Prime (at0 x.zA j):=by grind
   have aU:=zHN hp;have c0:pr x.zA i≤729:=by
    cases i with
    |zero=>simp[pr]
    |succ i=>grind
   unfold zOv;rw[yI hi,zK,yF hi,bs];rcases zCu (at0 x.zA i)with⟨h1,h2⟩|⟨h1,h2⟩
   ·have h3:=h2.pos
    have h4:pr x.zA i*at0 x.zA i≤729*7:=Lg c0 h3.2 (by omega) (by omega);have h5:1*1≤pr x.zA i*at0 x.zA i:=Lg aU (by omega) (by omega) (by omega);simp only
    rw[h1,bs,Ja,zL,zF (by omega) (by omega),bs]
    by_cases h7:pr x.zA i*at0 x.zA i> 729
    ·rw[dP h7,zK]
     exact .inr ⟨rfl,by grind[pr]⟩
    ·rw[dO h7,zL,bs,zF (by omega) (by omega),bs,cs]
     exact .inl ⟨rfl,h2,by grind[pr]⟩
   grind) (by
   unfold zOv;simp)with⟨g1,g2⟩|⟨i,_,hi,g1,g2⟩
 ·refine .inl ⟨g1,⟨by omega,by grind⟩,?_⟩
  cases hn:x.zA.length with
  |zero=>simp[pr]
  |succ n=>grind
 ·refine .inr ⟨g1,fun⟨h1,h2⟩=>g2 ⟨h1.2 i hi,?_⟩⟩
  have:=zP3 (os:=x.zA) (n:=x.zA.length) h1.2 (x.zA.length-(i+1)) (by omega)
  grind
theorem zFa{os:List Int}(ho:Os os):f_X os=dJ (cp os os.length):=by
 have h6:=ho.1;unfold f_X;rw[show(1,0)=(fun i=>(cp os i,(i:Int))) 0 from rfl,zM (body:=zRg os) (r:=cp os os.length) (fun i=>(cp os i,(i:Int))) os.length (fun i hi=>by
  have hp:=(ho.2 i hi).pos;have hc:=zSR (os:=os) (i:=i) fun j hj=>ho.2 j (by omega)
  have aU:=zHN (os:=os) (i:=i) fun j hj=>ho.2 j (by omega)
  unfold zRg;rw[yI hi,zK];simp only[cp]
  by_cases h:cp os i≤729
  ·have h4:cp os i*at0 os i≤729*7:=Lg h hp.2 (by omega) (by omega)
   have h5:1*1≤cp os i*at0 os i:=Lg (by omega) (by omega) (by omega) (by omega);rw[dP h,zK,yF hi,bs,zF (by omega) (by omega),bs,zF (by omega) (by omega),bs,cs,if_pos h]
  ·rw[dO h,zL,zF (by omega) (by omega),bs,cs,if_neg h]) (by
  unfold zRg;simp),bs]
theorem qJ{x:SPr}(hl:x.zA.length≤1048576):IsB (f_C x) (sU x):=by
 unfold f_C
 by_cases h6:x.zA.length≤6
 ·rw[dO (by omega),zL]
  by_cases hp:x.zJ.length=x.zA.length
  ·rw[zAQ (by omega),zL]
   by_cases hc:x.zB.length=x.zA.length
   ·rw[zAQ (by omega),zL]
    rcases zMd h6 with⟨h1,h2,h3⟩|⟨h1,h2⟩
    ·rw[h1,bs]
     exact(qI (f:=(zH (zOw x) 0).bind fun r=>match r with|.inl _=>dJ dL|.inr r=>dJ r) x.zA.length (zG0 x) rfl (by grind[zNH]) (by unfold zOw;simp)).iff ⟨fun g=>⟨⟨h2,hp,hc,g⟩,h6,h3⟩,fun g=>g.tl⟩
    ·rw[h1,bs]
     exact .inr ⟨rfl,fun g=>h2 ⟨g.os,g.pr⟩⟩
   ·rw[zA7 (by omega),zK]
    exact .inr ⟨rfl,fun g=>hc g.cl⟩
  ·rw[zA7 (by omega),zK]
   exact .inr ⟨rfl,fun g=>hp g.pl⟩
 ·rw[dP (by omega),zK]
  exact .inr ⟨rfl,fun g=>h6 g.n6⟩
theorem wX{x:SPr}(hl:x.zA.length≤1048576):IsB (f_o x) (sU x):=by
 unfold f_o
 by_cases h6:x.zA.length≤6
 ·rw[dO (by omega),zL]
  by_cases hp:x.zJ.length=x.zA.length
  ·rw[zAQ (by omega),zL]
   by_cases hc:x.zB.length=x.zA.length
   ·rw[zAQ (by omega),zL]
    rcases chk (body:=zRh x) x.zA.length 0 (Kf _) (fun i=>Prime (at0 x.zA i)) (fun _=>dM) (fun i _ hi _=>by
      refine uP (zHM _) (by omega) ?_;unfold zRh;rw[yI hi,zK,yF hi,bs]) (by
      unfold zRh;simp)with⟨g1,g2⟩|⟨i,_,hi,g1,g2⟩
    ·rw[show((0:Nat):Int)=0 from rfl]at g1
     have ho:Os x.zA:=⟨by omega,by grind⟩;have hcp:=zSR (os:=x.zA) (i:=x.zA.length) ho.2;rw[g1,bs];simp only
     rw[zFa ho,bs]
     by_cases h7:cp x.zA x.zA.length> 729
     ·rw[dP h7,zK]
      exact .inr ⟨rfl,fun g=>by have:=g.pr;omega⟩
     ·rw[dO h7,zL]
      exact(qI (f:=(zH (zLd x) 0).bind fun r=>match r with|.inl _=>dJ dL|.inr r=>dJ r) x.zA.length (zG0 x) rfl (by grind[zNI]) (by unfold zLd;simp)).iff ⟨fun g=>⟨⟨ho,hp,hc,g⟩,h6,by omega⟩,fun g=>g.tl⟩
    ·rw[show((0:Nat):Int)=0 from rfl]at g1
     rw[g1,bs];exact .inr ⟨rfl,fun g=>g2 (g.os.2 i hi)⟩
   ·rw[zA7 (by omega),zK]
    exact .inr ⟨rfl,fun g=>hc g.cl⟩
  ·rw[zA7 (by omega),zK]
   exact .inr ⟨rfl,fun g=>hp g.pl⟩
 ·rw[dP (by omega),zK]
  exact .inr ⟨rfl,fun g=>h6 g.n6⟩
end Go.Pl

namespace Go.Pl
open Go Go.Ab Go.Wk Go.Pc
def lvl(x:SPr)(i:Nat):Lvl:=⟨at0 x.zA i,(x.zJ.getD i []).drop (i+1),(x.zB.getD i []).map (·.drop (i+1))⟩
def suf(x:SPr)(k:Nat):Pcp:=(Kt k (x.zA.length-k)).map (lvl x)
theorem yH(x:SPr)(k:Nat):(suf x k).length=x.zA.length-k:=by simp[suf]
theorem zY{x:SPr}{k:Nat}(h:k<x.zA.length):suf x k=lvl x k::suf x (k+1):=by unfold suf;rw[show x.zA.length-k=(x.zA.length-(k+1))+1 from by omega,Jav,Jt]
theorem vA{x:SPr}{k:Nat}(h:x.zA.length≤k):suf x k=[]:=by unfold suf;simp_all
theorem zBd{os v:List Int}{k:Nat}(h:Exp os v k)(hk:k<os.length):v=zeros (k+1)++v.drop (k+1):=by
 have h1:=h.1.1;apply Kl;intro i;rw[Kn];simp only[zeros,J6,Kg,Lm];split
 ·rename_i hi
  have h2:=h.2 i (by omega)
  grind
 grind
theorem yAg{x:SPr}:∀(d k:Nat)(v:List Int),k+d=x.zA.length→v.length=d→(∀i,i<d→0≤at0 v i∧at0 v i≤at0 x.zA (k+i)-1)→V (suf x k) v
 |0,k,v,hk,hv,_=>by rw[vA (by omega)];simpa[V]using hv
 |d+1,k,v,hk,hv,h=>by
  rw[zY (by omega)]
  match v,hv with
  |a::v,hv=>
   have h0:=h 0 (by omega);simp only[at0,H6,Jad]at h0;refine⟨⟨h0.1,by simp only[lvl,at0];omega⟩,yAg d (k+1) v (by omega) (by grind) fun i hi=>?_⟩
   grind
theorem kU{x:SPr}{v:List Int}{k:Nat}(h:Exp x.zA v k)(hk:k<x.zA.length):V (suf x (k+1)) (v.drop (k+1)):=by
 have h1:=h.1.1;refine yAg (x.zA.length-(k+1)) (k+1) _ (by omega) (by grind) fun i hi=>?_
 have:=h.1.2 (k+1+i) (by omega)
 grind
theorem zEi.ok{x:SPr}(h:zEi x):∀(d k:Nat),k+d=x.zA.length→Pc.Ok (suf x k)
 |0,k,hk=>by rw[vA (by omega)];simp only[Pc.Ok]
 |d+1,k,hk=>by
  rw[zY (by omega)];obtain⟨t1,t2,t3⟩:=h.tl k (by omega);refine⟨by simp only[lvl];have:=(h.os.2 k (by omega)).pos;omega,kU t1 (by omega),?_,fun c hc=>?_,zEi.ok h d (k+1) (by omega)⟩
  ·grind[yH,lvl]
  ·simp only[lvl,Ji]at hc
   obtain⟨u,hu,rfl⟩:=hc;obtain⟨j,hj,rfl⟩:=K6.1 hu
   grind[kU]
theorem zEi.okAt{x:SPr}(h:zEi x){k:Nat}(hk:k≤x.zA.length):Pc.Ok (suf x k):=h.ok (x.zA.length-k) k (by omega)
theorem Pres.okAt{x:SPr}(h:Pres x){k:Nat}(hk:k≤x.zA.length):Pc.Ok (suf x k):=h.w.okAt hk
theorem zV(n:Nat):(zeros n).length=n:=by simp[zeros]
theorem zG1(k:Nat):zeros (k+1)=zeros k++[0]:=by simp[zeros,Kw]
theorem zEj{k:Nat}{a b:Int}{v:Vec}:(zeros k++a::v).set k b=zeros k++b::v:=by rw[Qh _ _ (by grind[zV]),zV,Ku,Lx]
theorem zDj{k:Nat}{a:Int}{v:Vec}:ixO (zeros k++a::v) (k:Int)=dJ a:=by rw[uZ,Je (by grind[zV]),zV,Ku];rfl
theorem zCv{k:Nat}{v:Vec}:zeros k++0::v=zeros (k+1)++v:=by rw[zG1,Jg];rfl
theorem xX{v:List Int}(h:v.length≤1000000):f_p v=dJ v:=by grind[f_p,zP]
end Go.Pl

namespace Go.Pl
open Go Go.Ab Go.Wk Go.Pc
theorem zCc{m:Vec→Vec→Vec}:∀(cs:List Vec)(x:Vec)(i:Nat)(acc:Vec),i<cs.length→i<x.length→
  img m (cs.take (i+1)) (x.take (i+1)) acc=iter (at0 x i).toNat (fun v=>m v (cs.getD i [])) (img m (cs.take i) (x.take i) acc)
 | [],_,_,_,h,_=>by simp at h
 |_::_,[],_,_,_,h=>by simp at h
 |c::cs,a::x,0,acc,_,_=>by rfl
 |c::cs,a::x,i+1,acc,h,h'=>by simp only[L5,img,at0,List.getD_cons_succ];exact zCc cs x i _ (by grind) (by grind)
theorem vN{α β:Type}{body:α×Int→Option ((α×Int)⊕α)}{S:β→Prop}(e:β→α)(g:β→β)(n:Int)(hn:0≤n)(hS:∀a,S a→S (g a))
  (h:∀a(i:Nat),S a→(i:Int)<n→body (e a,(i:Int))=dJ (.inl (e (g a),((i+1:Nat):Int))))(he:∀a,S a→body (e a,n)=dJ (.inr (e a))){a:β}(ha:S a):
  zH body (e a,0)=dJ (e (iter n.toNat g a)):=by
 have ef:∀k,S (iter k g a):=fun k=>vG (S:=S) hS k ha
 exact zM (body:=body) (r:=e (iter n.toNat g a)) (fun i=>(e (iter i g a),(i:Int))) n.toNat (by grind[wW]) (by grind)
theorem zMe{k i:Nat}{v:Vec}(h:i<v.length):ixO (zeros k++v) ((k+i:Nat):Int)=dJ (at0 v i):=by rw[uZ,Je (by grind[zV]),zV,show k+i-k=i from by omega,J7 h,at0,J3,J7 h];rfl
theorem zE2{x:SPr}(ho:Os x.zA):∀(d k:Nat)(v:List Int),k+d=x.zA.length→V (suf x k) v→v.length=d∧ ∀i,i<d→0≤at0 v i∧at0 v i<at0 x.zA (k+i)∧at0 v i≤6
 |0,k,v,hk,hv=>by
  rw[vA (by omega)]at hv;simp only[V]at hv
  grind
 |d+1,k,v,hk,hv=>by
  rw[zY (by omega)]at hv
  match v,hv with
  |a::v,hv=>
   obtain⟨h1,h2⟩:=zE2 ho d (k+1) v (by omega) hv.2;refine⟨by simp[h1],fun i hi=>?_⟩;cases i with
   |zero=>
    have h3:=hv.1;simp only[lvl]at h3;have:=(ho.2 k (by omega)).pos
    grind
   |succ i=>
    grind
theorem zFb{x:SPr}(h:Pres x){k i:Nat}(hk:k<x.zA.length)(hi:i<x.zA.length-(k+1)):
  ∃c,ixO x.zB (k:Int)=dJ (x.zB.getD k [])∧ixO (x.zB.getD k []) (i:Int)=dJ (zeros (k+1)++c)∧V (suf x (k+1)) c∧(lvl x k).cs.getD i []=c:=by
 obtain⟨t1,t2,t3⟩:=h.tl k hk;have hc:=h.cl
 grind[zT,kU,zBd,lvl]
def FAt(x:SPr)(k:Nat)(g:SPr→Int→List Int→List Int→Option (List Int)):Prop:=
 ∀a b,V (suf x k) a→V (suf x k) b→g x k (zeros k++a) (zeros k++b)=dJ (zeros k++mul (suf x k) a b)
def FIm(x:SPr)(k:Nat)(g:SPr→Int→List Int→Option (List Int)):Prop:=
 ∀v,V (suf x (k+1)) v→g x k (zeros (k+1)++v)=dJ (zeros (k+1)++sig (suf x (k+1)) (lvl x k) v)
theorem zNJ{x:SPr}(h:Pres x){k:Nat}(hk:k<x.zA.length){g:SPr→Int→List Int→List Int→Option (List Int)}(hg:FAt x (k+1) g):FIm x k (b_e g):=by
 intro v hv;have h6:=h.os.1;have ok:=h.okAt (k:=k+1) (by omega);obtain⟨co,tp⟩:=zE2 h.os (x.zA.length-(k+1)) (k+1) v (by omega) hv;have gf:=yH x (k+1);have gA:(lvl x k).cs.length=x.zA.length-(k+1):=by have:=h.okAt (k:=k) (by omega);rw[zY hk]at this;rw[this.2.2.1,gf]
 have gP:∀c∈(lvl x k).cs,V (suf x (k+1)) c:=by have:=h.okAt (k:=k) (by omega);rw[zY hk]at this;exact this.2.2.2.1
 have hA:∀i,V (suf x (k+1)) (img (mul (suf x (k+1))) ((lvl x k).cs.take i) (v.take i) (zeros (suf x (k+1)).length)):=fun i=>
  kH (yV ok) _ _ (by grind) (xU ok)
 unfold b_e;rw[yK (by omega),bs,zF (by omega) (by omega),bs,cs];have hz:J1 x.zA.length (0:Int)=zeros (k+1)++zeros (suf x (k+1)).length:=by rw[gf];simp only[zeros,Jl];congr 1;omega
 rw[hz];have:=zM (body:=zUe g x k (zeros (k+1)++v)) (r:=zeros (k+1)++sig (suf x (k+1)) (lvl x k) v)
  (fun i=>(zeros (k+1)++img (mul (suf x (k+1))) ((lvl x k).cs.take i) (v.take i) (zeros (suf x (k+1)).length),((k+1+i:Nat):Int))) (x.zA.length-(k+1)) (fun i hi=>by
  have hr:=tp i hi;obtain⟨c,c1,c2,c3,c4⟩:=zFb h hk hi;unfold zUe;rw[dP (by omega),zK];rw[vN (S:=V (suf x (k+1))) (body:=zUd g x k (zeros (k+1)++v) (zeros (k+1)++img (mul (suf x (k+1))) ((lvl x k).cs.take i) (v.take i) (zeros (suf x (k+1)).length),((k+1+i:Nat):Int))) (fun u=>zeros (k+1)++u) (fun u=>mul (suf x (k+1)) u c) (at0 v i) hr.1 (by grind[yV]) (fun u q hu hq=>by
   unfold zUd;simp only
   rw[zMe (by omega),bs,dP hq,zK,zF (by omega) (by omega),bs,c1,bs,zF (by omega) (by omega),bs,zF (by omega) (by omega),bs,
    show(((k+1+i:Nat):Int)-(k:Int)-1)=(i:Int)from by omega,c2,bs,cs,hg u c hu c3,bs,zF (by omega) (by omega),bs,cs]) (fun u hu=>by
   unfold zUd;simp only
   rw[zMe (by omega),bs,dO (by omega),zL]) (hA i),bs,zF (by omega) (by omega),bs,cs]
  rw[zCc _ _ _ _ (by omega) (by omega),c4];rfl) (by
  unfold zUe;rw[dO (by omega),zL,Jr (by omega),Jr (by omega)];rfl)
 grind[img]
theorem zW3{x:SPr}(h:Pres x){k:Nat}(hk:k<x.zA.length){g:SPr→Int→List Int→List Int→Option (List Int)}{gi:SPr→Int→List Int→Option (List Int)}(hg:FAt x (k+1) g)(hi:FIm x k gi):FAt x k (b_a gi g):=by
 intro a b ha hb;have h6:=h.os.1;have hp:=(h.os.2 k hk).pos;have ok:=h.okAt (k:=k+1) (by omega);have ok0:=h.okAt (k:=k) (by omega);obtain⟨mB,har⟩:=zE2 h.os (x.zA.length-k) k a (by omega) ha;obtain⟨fT,hbr⟩:=zE2 h.os (x.zA.length-k) k b (by omega) hb;rw[zY hk]at ha hb ok0;obtain⟨a0,a,rfl⟩:∃a0 a',a=a0::a':=by cases a with|nil=>grind|cons p q=>simp
 obtain⟨b0,b,rfl⟩:∃a0 a',b=a0::a':=by cases b with|nil=>grind|cons p q=>simp
 obtain⟨⟨a1,a2⟩,ha⟩:=ha;obtain⟨⟨b1,b2⟩,hb⟩:=hb;have fF:(lvl x k).o=at0 x.zA k:=rfl;rw[fF]at a2 b2;unfold b_a;rw[dO (by omega),zL,xX (by grind[zV]),bs,xX (by simp[zV]at fT ⊢;omega),bs,zDj,bs,zDj,bs,J8,zEj,zEj,zCv,zCv];have ep:∀u,V (suf x (k+1)) u→V (suf x (k+1)) (sig (suf x (k+1)) (lvl x k) u):=by grind[zDg]
 have ef:V (suf x (k+1)) (iter b0.toNat (sig (suf x (k+1)) (lvl x k)) a):=vG ep _ ha;rw[vN (S:=V (suf x (k+1))) (fun u=>zeros (k+1)++u) (sig (suf x (k+1)) (lvl x k)) b0 b1 ep (fun u q hu hq=>by
   unfold zXh;simp only
   rw[zDj,bs,dP hq,zK,hi u hu,bs,zF (by omega) (by omega),bs,cs]) (fun u hu=>by
   unfold zXh;simp only
   rw[zDj,bs,dO (by omega),zL]) ha,bs,zF (by omega) (by omega),bs,cs,hg _ _ ef hb,bs,bs,bs,zF (by omega) (by omega),bs,yF hk,bs]
 have hm:=yV ok ef hb;have bJ:=(zE2 h.os (x.zA.length-(k+1)) (k+1) _ (by omega) hm).1;have own:∀u,V (suf x (k+1)) u→f_p (zeros (k+1)++u)=dJ (zeros (k+1)++u):=fun u hu=>xX (by
  have:=(zE2 h.os (x.zA.length-(k+1)) (k+1) _ (by omega) hu).1
  grind[zV])
 rw[zY hk,yP,fF]
 by_cases hge:a0+b0≥at0 x.zA k
 ·have t1:=(h.tl k hk).1
  have hw:=kU t1 hk;have hwl:=h.pl;rw[dP hge,zK,if_pos hge,bs,zF (by omega) (by omega),bs,bs,zT [] (by omega),bs,zBd t1 hk,hg _ _ hw hm,bs,own _ (yV ok hw hm),bs];rw[←zCv,zDj,bs,zEj];rfl
 ·rw[dO hge,zL,if_neg hge,own _ hm,bs,←zCv,zDj,bs,zEj]
theorem zFR{x:SPr}(h:Pres x):∀(d k:Nat),k+d=x.zA.length→(∀m,2*d+1≤m→FAt x k (zOs m))∧(1≤d→ ∀m,2*d≤m→FIm x k (zOr m))
 |0,k,hk=>by
  refine⟨fun m hm a b ha hb=>?_,fun h=>by omega⟩;have h6:=h.os.1;obtain⟨m,rfl⟩:∃m',m=m'+1:=⟨m-1,by omega⟩;show b_a _ _ x k _ _=_;unfold b_a;rw[dP (by omega),zK,yK (by omega),bs,vA (by omega)]
  grind[mul,zeros]
 |d+1,k,hk=>by
  obtain⟨h1,h2⟩:=zFR h d (k+1) (by omega);have hI:∀m,2*(d+1)≤m→FIm x k (zOr m):=fun m hm=>by obtain⟨m,rfl⟩:∃m',m=m'+1:=⟨m-1,by omega⟩;exact zNJ h (by omega) (h1 m (by omega))
  refine⟨fun m hm=>?_,fun _=>hI⟩;obtain⟨m,rfl⟩:∃m',m=m'+1:=⟨m-1,by omega⟩;exact zW3 h (by omega) (h1 m (by omega)) (hI m (by omega))
theorem zP4{x:SPr}(h:Pres x){k:Nat}(hk:k≤x.zA.length):FAt x k f_a:=fun a b ha hb=>
 zBm (2*(x.zA.length-k)+1) fun m hm=>(zFR h (x.zA.length-k) k (by omega)).1 m hm a b ha hb
theorem zNK{x:SPr}(h:Pres x){k:Nat}(hk:k<x.zA.length):FIm x k f_e:=fun v hv=>
 zBm (2*(x.zA.length-k)) fun m hm=>(zFR h (x.zA.length-k) k (by omega)).2 (by omega) m hm v hv
end Go.Pl

namespace Go.Pl
open Go Go.Ab Go.Wk Go.Pc
theorem zDk:∀{P Q:Pcp},Q<:+P→xK P→xK Q
 | [],Q,h,_=>by grind
 |l::P,Q,h,hc=>by
  rcases Us.1 h with rfl|h
  ·exact hc
  ·exact zDk h hc.1
theorem zJ2:∀{P Q:Pcp},Q<:+P→Pc.Ok P→Pc.Ok Q
 | [],Q,h,_=>by grind
 |l::P,Q,h,hc=>by
  rcases Us.1 h with rfl|h
  ·exact hc
  ·exact zJ2 h hc.2.2.2.2
theorem zNL(x:SPr)(k:Nat):suf x (k+1)<:+suf x k:=by grind[zY,vA]
theorem zFc{x:SPr}{k:Nat}(h:xK (suf x k)):∀i,xK (suf x (k+i))
 |0=>h
 |i+1=>zDk (zNL x (k+i)) (zFc h i)
theorem zHO{x:SPr}(h:Pres x){k:Nat}(hk:k≤x.zA.length)(hc:xK (suf x k)):Grp (V (suf x k)) (mul (suf x k)) (zeros (suf x k).length):=zDh _ (h.okAt hk) hc
theorem zGQ{x:SPr}:∀(i k:Nat)(v:Vec),k+i≤x.zA.length→V (suf x k) v→ ∃q v',v=q++v'∧q.length=i∧V (suf x (k+i)) v'∧
  ∀a b,V (suf x (k+i)) a→V (suf x (k+i)) b→mul (suf x k) (q++a) (zeros i++b)=q++mul (suf x (k+i)) a b
 |0,k,v,_,hv=>⟨[],v,rfl,rfl,hv,fun a b _ _=>rfl⟩
 |i+1,k,v,hk,hv=>by
  rw[zY (by omega)]at hv
  match v,hv with
  |e::v,hv=>
   obtain⟨q,v',h1,h2,h3,h4⟩:=zGQ i (k+1) v (by omega) hv.2;rw[show k+1+i=k+(i+1)from by omega]at h3 h4;refine⟨e::q,v',by grind,by simp[h2],h3,fun a b ha hb=>?_⟩;have he:=hv.1;rw[zY (by omega)];show mul (lvl x k::suf x (k+1)) (e::(q++a)) (0::(zeros i++b))=_;rw[yP,Lu,if_neg (by omega)]
   grind[iter]
def FTV(x:SPr)(k:Nat)(g:SPr→List Int→List Int→Option (List Int)):Prop:=
 ∀p v u,p.length=k→V (suf x k) v→V (suf x k) u→g x (p++v) (zeros k++u)=dJ (p++mul (suf x k) v u)
def FTG(x:SPr)(k:Nat)(g:SPr→List Int→Int→Option (List Int)):Prop:=
 ∀p v,p.length=k→V (suf x k) v→g x (p++v) (k:Int)=dJ (p++mul (suf x k) v (1::zeros (x.zA.length-(k+1))))
theorem zJ3{x:SPr}(h:Pres x){k:Nat}(hk:k<x.zA.length){g:SPr→List Int→List Int→Option (List Int)}(hg:FTV x (k+1) g){t:Vec}(ht:V (suf x (k+1)) t)
  {body1:List Int×Int→Int→List Int×Int→Option ((List Int×Int)⊕List Int)}{body2:List Int×Int→Option ((List Int×Int)⊕List Int)}
  (pc:∀s,body2 s=cond (decide (s.2<(t.length:Int))) ((ixO t s.2).bind fun v17=>(zH (body1 s v17) (s.1,0)).bind fun r=>(rng (s.2+1)).bind fun v=>dJ (.inl (r,v))) (dJ (.inr s.1)))
  (dz:∀s v q,body1 s v q=cond (decide (q.2<v)) ((ixO x.zB (k:Int)).bind fun cl=>(ixO cl s.2).bind fun c=>(g x q.1 c).bind fun r=>(rng (q.2+1)).bind fun w=>dJ (.inl (r,w))) (dJ (.inr q.1)))
  {p:Vec}(hp:p.length=k+1){u:Vec}(hu:V (suf x (k+1)) u):zH body2 (p++u,0)=dJ (p++img (mul (suf x (k+1))) (lvl x k).cs t u):=by
 have h6:=h.os.1;have ok:=h.okAt (k:=k+1) (by omega);have ok0:=h.okAt (k:=k) (by omega);rw[zY hk]at ok0;obtain⟨fe,bm⟩:=zE2 h.os (x.zA.length-(k+1)) (k+1) t (by omega) ht;have gA:(lvl x k).cs.length=x.zA.length-(k+1):=by rw[ok0.2.2.1,yH]
 have hA:∀i,V (suf x (k+1)) (img (mul (suf x (k+1))) ((lvl x k).cs.take i) (t.take i) u):=fun i=>
  kH (yV ok) _ _ (fun c hc=>ok0.2.2.2.1 c (by grind)) hu
 have:=zM (body:=body2) (r:=p++img (mul (suf x (k+1))) (lvl x k).cs t u) (fun i=>(p++img (mul (suf x (k+1))) ((lvl x k).cs.take i) (t.take i) u,(i:Int))) t.length (fun i hi=>by
  have hr:=bm i (by omega);obtain⟨c,c1,c2,c3,c4⟩:=zFb h hk (i:=i) (by omega);rw[pc];simp only
  rw[yI hi,zK,yF hi,bs];rw[vN (S:=V (suf x (k+1))) (fun u=>p++u) (fun u=>mul (suf x (k+1)) u c) (at0 t i) hr.1 (by grind[yV]) (fun u q hu hq=>by
   rw[dz];simp only
   rw[dP hq,zK,c1,bs,c2,bs,hg p u c hp hu c3,bs,zF (by omega) (by omega),bs,cs]) (by grind) (hA i),bs,zF (by omega) (by omega),bs,cs]
  rw[zCc _ _ _ _ (by omega) (by omega),c4]) (by
  grind)
 grind[img]
theorem zYI{p v:Vec}{a:Int}{k:Nat}(hp:p.length=k):ixO (p++a::v) (k:Int)=dJ a:=by rw[uZ,Je (by omega),hp,Ku];rfl
theorem p_set{p v:Vec}{a b:Int}{k:Nat}(hp:p.length=k):(p++a::v).set k b=p++b::v:=by simp_all
theorem zMf{x:SPr}(h:Pres x){k:Nat}(hk:k<x.zA.length)(hc:xK (suf x (k+1))){g:SPr→List Int→List Int→Option (List Int)}(hg:FTV x (k+1) g):FTG x k (b_b g):=by
 intro p v hp hv;have h6:=h.os.1;have G:=zHO h (k:=k+1) (by omega) hc;have ok:=h.okAt (k:=k+1) (by omega);have ok0:=h.okAt (k:=k) (by omega);obtain⟨co,tp⟩:=zE2 h.os (x.zA.length-k) k v (by omega) hv;rw[zY hk]at hv ok0;obtain⟨e,t,rfl⟩:∃a0 a',v=a0::a':=by cases v with|nil=>grind|cons p q=>simp
 obtain⟨⟨e1,e2⟩,ht⟩:=hv;have fF:(lvl x k).o=at0 x.zA k:=rfl;rw[fF]at e2;have fE:=(h.os.2 k hk).pos;have fe:=(zE2 h.os (x.zA.length-(k+1)) (k+1) t (by omega) ht).1;have fC:=yH x (k+1);unfold b_b;have hs:zQ (p++e::t) ((k+1:Nat):Int) ((p++e::t).length:Int)=dJ t:=by
  unfold zQ;rw[if_pos (by grind)];have e3:(p++e::t).drop (k+1)=t:=by rw[List.drop_append,Gi (by omega),hp,show k+1-k=1 from by omega];rfl
  grind[J8]
 have my:f_K t=dJ t:=by grind[f_K,zP]
 rw[zF (by omega) (by omega),bs,cs,hs,bs,my,bs];have hz:=zM (body:=zUt k t) (r:=(p++[e])++zeros t.length) (fun i=>((p++[e])++(zeros i++t.drop i),(i:Int))) t.length (fun i hi=>by
  have hl:((p++[e])++zeros i).length=k+1+i:=by grind[zV]
  unfold zUt;simp only
  rw[yI hi,zK,zF (by omega) (by omega),bs,zF (by omega) (by omega),bs,show(k:Int)+1+(i:Int)=((k+1+i:Nat):Int)from by omega,uZ,←Jg,Je (by omega),hl,Ku,
   Gs hi,Uj,bs,zF (by omega) (by omega),bs,cs,J8,Qh _ _ (by omega),hl,Ku,Lx,zG1]
  simp) (by
  unfold zUt;simp)
 simp only[zeros,Lw,G9,Jq,Jg,Hd]at hz;rw[show((0:Nat):Int)=0 from rfl]at hz;rw[hz,bs,J8,zYI hp,bs,zF (by omega) (by omega),bs,bs,p_set hp,zYI hp,bs,yF hk,bs];have eM:J1 t.length (0:Int)=zeros (suf x (k+1)).length:=by rw[fC,fe];rfl
 rw[zY hk,yP,fF];have gm:mul (suf x (k+1)) (iter (1:Int).toNat (sig (suf x (k+1)) (lvl x k)) t) (zeros (x.zA.length-(k+1)))=sig (suf x (k+1)) (lvl x k) t:=by rw[←fC];show mul _ (sig (suf x (k+1)) (lvl x k) t) _=_;exact G.oner (zDg ok0 ht)
 rw[gm,eM]
 by_cases heq:e+1=at0 x.zA k
 ·have t1:=(h.tl k hk).1
  have hw:=kU t1 hk;have hwl:=h.pl;have tz:(p++[(0:Int)]).length=k+1:=by simp[hp]
  rw[show(e+1==at0 x.zA k)=dL from by grind,zK,if_pos (by omega),bs,zT [] (by omega),bs,p_set hp];have ak:p++0::zeros (suf x (k+1)).length=(p++[0])++zeros (suf x (k+1)).length:=by simp
  rw[ak,zBd t1 hk,hg _ _ _ tz G.ein hw,bs,G.onel hw];rw[zJ3 (body1:=yAK g x k) (body2:=yAL g x k t) h hk hg ht (fun _=>rfl) (fun _ _ _=>rfl) tz hw,bs];rw[zEZ G.toMon _ _ ok0.2.2.2.1 hw,show e+1-at0 x.zA k=0 from by omega];simp only[Jg,Hd];rfl
 ·have tz:(p++[e+1]).length=k+1:=by simp[hp]
  rw[show(e+1==at0 x.zA k)=dM from by grind,zL,if_neg (by omega)];have ak:p++(e+1)::zeros (suf x (k+1)).length=(p++[e+1])++zeros (suf x (k+1)).length:=by simp
  rw[ak,zJ3 (body1:=yAM g x k) (body2:=yAN g x k t) h hk hg ht (fun _=>rfl) (fun _ _ _=>rfl) tz G.ein,bs];simp only[Jg,Hd];rfl
theorem zAX{n i:Nat}(h:i<n):yZ n i=zeros i++1::zeros (n-(i+1)):=by
 have:zeros n=zeros i++0::zeros (n-(i+1)):=by
  simp only[zeros];rw[←Ju,Jl]
  grind
 grind[yZ,zEj]
theorem zFd(n:Nat):(xQ n).length=n:=by simp[xQ]
theorem zHP{n i:Nat}(h:i<n):(xQ n).getD i []=yZ n i:=by simp[xQ,J3,h]
theorem zSS{x:SPr}(h:Pres x){k:Nat}(hk:k≤x.zA.length)(hc:xK (suf x k)){g:SPr→List Int→Int→Option (List Int)}(hg:∀j,k≤j→j<x.zA.length→FTG x j g):FTV x k (b_d g):=by
 intro p v u hp hv hu;have h6:=h.os.1;have G:=zHO h hk hc;have ok:=h.okAt hk;obtain⟨eS,ar⟩:=zE2 h.os (x.zA.length-k) k u (by omega) hu;have fC:=yH x k;have hV1:∀j,j≤x.zA.length→j<x.zA.length→V (suf x j) (1::zeros (x.zA.length-(j+1))):=fun j hj mm=>by rw[zY mm];have:=(h.os.2 j mm).pos;refine⟨⟨by omega,by show 1<at0 x.zA j;omega⟩,?_⟩;rw[←yH];exact xU (h.okAt (by omega))
 have hUn:∀i,i<x.zA.length-k→V (suf x k) (yZ (x.zA.length-k) i):=by grind[zDf]
 have hUs:∀c∈xQ (x.zA.length-k),V (suf x k) c:=fun c hc=>by
  simp only[xQ,Ji,Kq]at hc
  grind
 have hA:∀i,V (suf x k) (img (mul (suf x k)) ((xQ (x.zA.length-k)).take i) (u.take i) v):=fun i=>
  kH (yV ok) _ _ (by grind) hv
 have dg:∀i w,i<x.zA.length-k→V (suf x k) w→g x (p++w) ((k+i:Nat):Int)=dJ (p++mul (suf x k) w (yZ (x.zA.length-k) i)):=fun i w hi hw=>by obtain⟨q,w',h1,h2,h3,h4⟩:=zGQ i k w (by omega) hw;have h5:=hg (k+i) (by omega) (by omega) (p++q) w' (by grind) h3;rw[Jg,←h1]at h5;rw[h5,zAX hi,h1,show x.zA.length-k-(i+1)=x.zA.length-(k+i+1)from by omega,h4 w' _ h3 (hV1 (k+i) (by omega) (by omega)),Jg]
 unfold b_d;have bj:(zeros k++u).length=x.zA.length:=by grind[zV]
 have:=zM (body:=zUv g x (zeros k++u)) (r:=p++mul (suf x k) v u) (fun j=>(p++img (mul (suf x k)) ((xQ (x.zA.length-k)).take (j-k)) (u.take (j-k)) v,(j:Int))) x.zA.length (fun j hj=>by
  unfold zUv;simp only
  rw[bj,yI hj,zK];rcases Jn j k with hjk|hjk
  ·have e0:ixO (zeros k++u) (j:Int)=dJ 0:=by
    rw[uZ,K3 (by grind)]
    grind[zeros]
   rw[e0,bs,show j-k=0 from by omega,show j+1-k=0 from by omega];rw[yQ];unfold zUu;simp only
   rw[show decide ((0:Int)<0)=dM from rfl,zL];simp only
   rw[bs,zF (by omega) (by omega),bs,cs]
  ·obtain⟨i,rfl⟩:∃i,j=k+i:=⟨j-k,by omega⟩
   have hi:i<x.zA.length-k:=by omega
   have hr:=ar i hi;rw[zMe (by omega),bs,show k+i-k=i from by omega,show k+i+1-k=i+1 from by omega];rw[vN (S:=V (suf x k)) (fun w=>p++w) (fun w=>mul (suf x k) w (yZ (x.zA.length-k) i)) (at0 u i) hr.1 (by grind[yV]) (fun w q hw hq=>by
    unfold zUu;simp only
    rw[dP hq,zK,dg i w hi hw,bs,zF (by omega) (by omega),bs,cs]) (fun w hw=>by
    unfold zUu;simp) (hA i),bs,zF (by omega) (by omega),bs,cs]
   rw[zCc _ _ _ _ (by grind[zFd]) (by omega),zHP hi]) (by
  unfold zUv;simp only
  rw[bj,vR,zL,Jr (by grind[zFd]),Jr (by omega),zEZ G.toMon _ _ hUs hv];have hn:=normal (suf x k) ok (fun Q hQ=>(zDh Q (zJ2 hQ ok) (zDk hQ hc)).toMon) u hu
  grind)
 simp only[Nat.zero_sub,Km,img]at this
 grind
theorem zFS{x:SPr}(h:Pres x):∀(d k:Nat),k+d=x.zA.length→xK (suf x k)→(∀m,2*d+1≤m→FTV x k (zRl m))
 |d,k,hk,hc=>fun m hm=>by
  obtain⟨m,rfl⟩:∃m',m=m'+1:=⟨m-1,by omega⟩;refine zSS h (by omega) hc fun j hj mY=>?_
  obtain⟨m,rfl⟩:∃m',m=m'+1:=⟨m-1,by omega⟩;have ae:xK (suf x (j+1)):=by
   have:=zFc hc (j+1-k)
   grind
  exact zMf h mY ae (zFS h (x.zA.length-(j+1)) (j+1) (by omega) ae m (by omega))
 termination_by d=>d
 decreasing_by omega
theorem zW4{x:SPr}(h:Pres x){k:Nat}(hk:k≤x.zA.length)(hc:xK (suf x k)):FTV x k f_d:=fun p v u hp hv hu=>
 zBm (2*(x.zA.length-k)+1) fun m hm=>zFS h (x.zA.length-k) k (by omega) hc m hm p v u hp hv hu
theorem zW5{x:SPr}(h:Pres x){k:Nat}(hk:k<x.zA.length)(hc:xK (suf x (k+1))):FTG x k f_b:=fun p v hp hv=>
 zBm (2*(x.zA.length-k)) fun m hm=>by obtain⟨m,rfl⟩:∃m',m=m'+1:=⟨m-1,by omega⟩;exact zMf h hk hc (zFS h (x.zA.length-(k+1)) (k+1) (by omega) hc m (by omega)) p v hp hv
end Go.Pl

namespace Go.Pl
open Go Go.Ab Go.Wk Go.Pc
abbrev fv(k:Nat)(v:Vec):Vec:=zeros k++v
section
variable {x:SPr} (h:Pres x) {k:Nat} (hk:k≤x.zA.length) (hc:xK (suf x k))
 include h hk
theorem wR{v:Vec}(hv:V (suf x k) v):v.length=x.zA.length-k:=(zE2 h.os (x.zA.length-k) k v (by omega) hv).1
theorem zDl{v:Vec}(hv:V (suf x k) v):(fv k v).length=x.zA.length:=by grind[zV,wR]
theorem zP5:J1 x.zA.length (0:Int)=fv k (zeros (suf x k).length):=by
 have _:=h;rw[yH];simp only[fv,zeros,Jl];grind
 include hc
theorem zNM{i:Nat}(hi:i<x.zA.length-k):V (suf x k) (yZ (x.zA.length-k) i):=by
 have _:=hc;have:=yH x k;rw[←this]at hi ⊢
 exact zDf (h.okAt hk) hi
theorem zMg{p:Vec}(hp:p.length=k){i:Nat}(hi:i<x.zA.length-k){w:Vec}(hw:V (suf x k) w):f_b x (p++w) ((k+i:Nat):Int)=dJ (p++mul (suf x k) w (yZ (x.zA.length-k) i)):=by
 obtain⟨q,w',h1,h2,h3,h4⟩:=zGQ i k w (by omega) hw;have ae:xK (suf x (k+i+1)):=zFc hc (i+1);have h5:=zW5 h (k:=k+i) (by omega) ae (p++q) w' (by grind) h3;have h7:V (suf x (k+i)) (1::zeros (x.zA.length-(k+i+1))):=by
  have mm:k+i<x.zA.length:=by omega
  rw[zY mm];have:=(h.os.2 (k+i) mm).pos;refine⟨⟨by omega,by show 1<at0 x.zA (k+i);omega⟩,?_⟩;rw[←yH];exact xU (h.okAt (by omega))
 grind[zAX]
theorem zHQ{a b:Vec}(ha:V (suf x k) a)(hb:V (suf x k) b):f_d x (fv k a) (fv k b)=dJ (fv k (mul (suf x k) a b)):=
 zW4 h hk hc (zeros k) a b (zV k) ha hb
theorem zMh{a:Vec}(ha:V (suf x k) a):f_K (fv k a)=dJ (fv k a):=by
 have _:=hc;have:=zDl h hk ha;have h6:=h.os.1
 grind[f_K,zP]
theorem zIL{a b:Vec}(ha:V (suf x k) a)(hb:V (suf x k) b):zU1 x (fv k a) (fv k b)=dJ (fv k (mul (suf x k) a b)):=by grind[zU1,zMh,zHQ]
theorem zNN{c:Vec}(cV:V (suf x k) c){e:Int}(e0:0≤e)(e1:e≤1000):zXm x (fv k c) e=dJ (fv k (pw (mul (suf x k)) (zeros (suf x k).length) c e.toNat)):=by
 have h6:=h.os.1;have ok:=h.okAt hk;unfold zXm;rw[zDl h hk cV,yK (by omega),bs,zP5 h hk];rw[vN (S:=V (suf x k)) (body:=zMY x (fv k c) e) (fun u=>fv k u) (fun u=>mul (suf x k) u c) e e0 (by grind[yV]) (fun u i hu hi=>by
  unfold zMY;simp only
  rw[dP hi,zK,zHQ h hk hc hu cV,bs,zF (by omega) (by omega),bs,cs]) (fun u hu=>by
  unfold zMY;simp) (xU ok),bs]
 rfl
theorem zMi{v:Vec}(hv:V (suf x k) v):∃w,V (suf x k) w∧mul (suf x k) v w=zeros (suf x k).length∧f_Y x (fv k v)=dJ (fv k w):=by
 have h6:=h.os.1;have ok:=h.okAt hk;have G:=zHO h hk hc;have co:=zDl h hk hv;have fC:=yH x k;unfold f_Y;rw[zMh h hk hc hv,bs,co,yK (by omega),bs,zP5 h hk]
 let I:Nat→(List Int×List Int×Int)→Prop:=fun j s=> ∃A w,s=(fv k A,fv k w,(j:Int))∧V (suf x k) A∧V (suf x k) w∧mul (suf x k) v w=A∧ ∃A',A=zeros (j-k)++A'
 have key:=uK (body:=zU0 x (fv k v)) (Q:=fun r=> ∃w,V (suf x k) w∧mul (suf x k) v w=zeros (suf x k).length∧r=fv k w) I x.zA.length (fun j s hj hI=>by
  obtain⟨A,w,rfl,hA,hw,hm,A',hA'⟩:=hI;left;unfold zU0;simp only
  rw[co,yI hj,zK];rcases Jn j k with hjk|hjk
  ·have e0:ixO (fv k A) (j:Int)=dJ 0:=by
    grind[uZ,zeros]
   rw[yQ];unfold zRm;simp only
   rw[e0,bs,show((0:Int) != 0)=dM from rfl,zL];simp only
   rw[bs,zF (by omega) (by omega),bs,cs]
   grind
  ·obtain⟨i,rfl⟩:∃i,j=k+i:=⟨j-k,by omega⟩
   have hi:i<x.zA.length-k:=by omega
   rw[show k+i-k=i from by omega]at hA';have cY:=wR h hk hA;obtain⟨a0,A',rfl⟩:∃p q,A'=p::q:=by
    cases A' with
    |nil=>grind[zV]
    |cons p q=>simp
   have fE:=(h.os.2 (k+i) hj).pos;have inner:=uK (body:=zRm x (fv k A,fv k w,((k+i:Nat):Int))) (s:=(fv k A,fv k w))
    (Q:=fun r=> ∃B u,r=(fv k B,fv k u)∧V (suf x k) B∧V (suf x k) u∧mul (suf x k) v u=B∧ ∃B',B=zeros (i+1)++B')
    (fun q s=> ∃B u b B',s=(fv k B,fv k u)∧V (suf x k) B∧V (suf x k) u∧mul (suf x k) v u=B∧B=zeros i++b::B'∧(b=0∨b=a0+q)) 10 (fun q s hq hs=>by
     obtain⟨B,u,b,B',rfl,hB,hu,mV,mE,hb⟩:=hs;have hz:ixO (fv k B) ((k+i:Nat):Int)=dJ b:=by rw[fv,zMe (by grind[wR]),mE,at0,J3,Je (by rw[zV];omega),zV,Ku];rfl
     unfold zRm;simp only
     rw[hz,bs]
     by_cases dA:b=0
     ·subst dA
      right;rw[show((0:Int) != 0)=dM from rfl,zL];exact⟨_,rfl,B,u,rfl,hB,hu,mV,B',by rw[mE,zCv]⟩
     ·left
      have hbq:b=a0+q:=by omega
      rw[show(b != 0)=dL from by grind,zK,zMg h hk hc (zV k) hi hB,bs,zMg h hk hc (zV k) hi hu,bs];have hU:=zNM h hk hc hi;obtain⟨q',v',h1,h2,h3,h4⟩:=zGQ i k B (by omega) hB;have hqv:q'=zeros i∧v'=b::B':=by grind[List.append_inj,zV]
      obtain⟨rfl,rfl⟩:=hqv;have h7:V (suf x (k+i)) (1::zeros (x.zA.length-(k+i+1))):=by rw[zY hj];refine⟨⟨by omega,by show 1<at0 x.zA (k+i);omega⟩,?_⟩;rw[←yH];exact xU (h.okAt (by omega))
      have h8:=h4 (b::B') _ h3 h7;rw[show x.zA.length-(k+i+1)=x.zA.length-k-(i+1)from by omega,←zAX hi,←h1,zY hj,yP]at h8;refine⟨_,rfl,mul (suf x k) B (yZ (x.zA.length-k) i),mul (suf x k) u (yZ (x.zA.length-k) i),?_⟩;have fF:(lvl x (k+i)).o=at0 x.zA (k+i):=rfl;rw[fF]at h8
      by_cases hge:b+1≥at0 x.zA (k+i)
      ·rw[if_pos hge]at h8
       refine⟨_,_,rfl,yV ok hB hU,yV ok hu hU,?_,h8,?_⟩
       ·rw[←G.assoc hv hu hU,mV]
       ·left
        rw[zY hj]at h3;have:=h3.1.2;omega
      ·rw[if_neg hge]at h8
       refine⟨_,_,rfl,yV ok hB hU,yV ok hu hU,?_,h8,?_⟩
       ·rw[←G.assoc hv hu hU,mV]
       omega) (fun s hs=>by
     obtain⟨B,u,b,B',rfl,hB,hu,mV,mE,hb⟩:=hs;have hz:ixO (fv k B) ((k+i:Nat):Int)=dJ b:=by rw[fv,zMe (by grind[wR]),mE,at0,J3,Je (by rw[zV];omega),zV,Ku];rfl
     have hbr:=(zE2 h.os (x.zA.length-k) k B (by omega) hB).2 i hi;have ha:=(zE2 h.os (x.zA.length-k) k A (by omega) hA).2 i hi;have e1:at0 B i=b:=by rw[mE,at0,J3,Je (by grind[zV]),zV,Ku];rfl
     have e2:at0 A i=a0:=by rw[hA',at0,J3,Je (by grind[zV]),zV,Ku];rfl
     have dA:b=0:=by omega
     subst dA;unfold zRm;simp only
     rw[hz,bs,show((0:Int) != 0)=dM from rfl,zL];exact⟨_,rfl,B,u,rfl,hB,hu,mV,B',by rw[mE,zCv]⟩) (by grind)
   obtain⟨r,r1,B,u,rfl,hB,hu,mV,B',mE⟩:=inner;rw[r1,bs,zF (by omega) (by omega),bs,cs]
   grind) (fun s hI=>by
  obtain⟨A,w,rfl,hA,hw,hm,A',hA'⟩:=hI;unfold zU0;simp only
  rw[co,vR,zL];refine⟨_,rfl,w,hw,?_,rfl⟩;have cY:=wR h hk hA;rw[hA',J5,zV]at cY
  grind) (s:=(fv k v,fv k (zeros (suf x k).length),0))
  ⟨v,_,rfl,hv,xU ok,G.oner hv,v,by rw[Nat.zero_sub];rfl⟩
 grind
theorem zDm{a b:Vec}(ha:V (suf x k) a)(hb:V (suf x k) b):∃c,V (suf x k) c∧mul (suf x k) b c=mul (suf x k) a b∧zU2 x (fv k a) (fv k b)=dJ (fv k c):=by
 have ok:=h.okAt hk;have G:=zHO h hk hc;obtain⟨w,hw,hm,h1⟩:=zMi h hk hc hb;have ai:=yV ok ha hb;refine⟨mul (suf x k) w (mul (suf x k) a b),yV ok hw ai,?_,?_⟩
 ·rw[←G.assoc hb hw ai,hm,G.onel ai]
 grind[zU2,zIL]
end
theorem zCw{a b:List Int}(h:a.length≤1000000):zIV a b=dJ (a==b):=
 zMc (t:=fun u v=>dJ (u==v)) (body:=zUz a b) rfl (fun _=>rfl) (by omega) fun _ _ _ _=>rfl
theorem zFT{a b:List Int}(h:a.length≤1000000):f_Z a b=dJ (a==b):=zCw h
end Go.Pl

namespace Go.Pl
open Go Go.Ab Go.Wk Go.Pc
theorem zMj{ρ:Type}{body:Int→Option (Int⊕(Unit⊕ρ))}(n i0:Nat)(hn:i0≤n)(P:Nat→Prop)(B:ρ→Prop)
  (h:∀i,i0≤i→i<n→(∀j,i0≤j→j<i→P j)→(body (i:Int)=dJ (.inl ((i+1:Nat):Int))∧P i)∨(∃r,body (i:Int)=dJ (.inr (.inr r))∧B r∧ ¬P i))
  (he:body (n:Int)=dJ (.inr (.inl ()))):
  (zH body (i0:Int)=dJ (.inl ())∧ ∀j,i0≤j→j<n→P j)∨ ∃r i,i0≤i∧i<n∧zH body (i0:Int)=dJ (.inr r)∧B r∧ ¬P i:=by
 have key:∀k i,i0≤i→i+k=n→(∀j,i0≤j→j<i→P j)→(zH body (i:Int)=dJ (.inl ())∧ ∀j,i0≤j→j<n→P j)∨ ∃r q,i0≤q∧q<n∧zH body (i:Int)=dJ (.inr r)∧B r∧ ¬P q:=by
  intro k
  induction k with
  |zero=>
   intro i hi hk hp;obtain rfl:i=n:=by omega
   grind[yQ]
  |succ k ih=>
   intro i hi hk hp;rcases h i hi (by omega) hp with⟨h1,h2⟩|⟨r,h1,h2,h3⟩
   ·have:=ih (i+1) (by omega) (by omega) (by grind)
    rw[yQ,h1];exact this
   ·exact .inr ⟨r,i,hi,by omega,by rw[yQ,h1],h2,h3⟩
 exact key (n-i0) i0 (Jk _) (by omega) fun j a b=>by omega
theorem zHR{σ ρ:Type}{body:σ→Option (σ⊕ρ)}{Q:ρ→Prop}(I:σ→Prop)(m:σ→Nat)
  (h:∀s,I s→(∃s',body s=dJ (.inl s')∧I s'∧m s'<m s)∨ ∃r,body s=dJ (.inr r)∧Q r):∀(k:Nat)(s:σ),m s≤k→I s→ ∃r,zH body s=dJ r∧Q r
 |k,s,hk,hs=>by
  rcases h s hs with⟨s',h1,h2,h3⟩|⟨r,h1,h2⟩
  ·cases k with
   |zero=>omega
   |succ k=>
    obtain⟨r,h4,h5⟩:=zHR I m h k s' (by omega) h2
    grind[yQ]
  grind[yQ]
theorem yAh{k:Nat}{a b:Vec}:(fv k a==fv k b)=dL↔a=b:=by simp
theorem zDn{x:SPr}{v:List Int}{i k:Nat}(h:Exp x.zA v i)(hk:k≤i+1)(hn:k≤x.zA.length):v=fv k (v.drop k)∧V (suf x k) (v.drop k):=by
 have h1:=h.1.1;constructor
 ·apply Kl
  intro j;rw[fv,Kn];simp only[zeros,J6,Kg,Lm];split
  ·rename_i hj
   have h2:=h.2 j (by omega)
   grind
  grind
 ·refine yAg (x.zA.length-k) k _ (by omega) (by grind) fun j hj=>?_
  have:=h.1.2 (k+j) (by omega)
  grind
structure LC (x:SPr) (k:Nat):Prop where
 c1:∀j,k+1≤j→j<x.zA.length→pw (mul (suf x (k+1))) (zeros (suf x (k+1)).length) ((lvl x k).cs.getD (j-(k+1)) []) (at0 x.zA j).toNat=sig (suf x (k+1)) (lvl x k) ((x.zJ.getD j []).drop (k+1))
 c2:∀i,k+1≤i→i<x.zA.length→ ∀j,i+1≤j→j<x.zA.length→
  mul (suf x (k+1)) ((lvl x k).cs.getD (j-(k+1)) []) ((lvl x k).cs.getD (i-(k+1)) [])=mul (suf x (k+1)) ((lvl x k).cs.getD (i-(k+1)) []) (sig (suf x (k+1)) (lvl x k) (((x.zB.getD i []).getD (j-(i+1)) []).drop (k+1)))
 c3:sig (suf x (k+1)) (lvl x k) (lvl x k).w=(lvl x k).w
 c4:∀j,k+1≤j→j<x.zA.length→mul (suf x (k+1)) (lvl x k).w (iter (lvl x k).o.toNat (sig (suf x (k+1)) (lvl x k)) (yZ (x.zA.length-(k+1)) (j-(k+1))))=mul (suf x (k+1)) (yZ (x.zA.length-(k+1)) (j-(k+1))) (lvl x k).w
section
variable {x:SPr} (h:Pres x) {k:Nat} (hk:k<x.zA.length) (hc:xK (suf x (k+1)))
 include h hk
theorem zA8{j:Nat}(h1:k+1≤j)(h2:j<x.zA.length):ixO x.zB (k:Int)=dJ (x.zB.getD k [])∧ixO (x.zB.getD k []) ((j:Int)-(k:Int)-1)=dJ (fv (k+1) ((lvl x k).cs.getD (j-(k+1)) []))∧V (suf x (k+1)) ((lvl x k).cs.getD (j-(k+1)) []):=by
 obtain⟨c,c1,c2,c3,c4⟩:=zFb h hk (i:=j-(k+1)) (by omega)
 grind
theorem zST{j:Nat}(h1:k+1≤j)(h2:j<x.zA.length):ixO x.zJ (j:Int)=dJ (fv (k+1) ((x.zJ.getD j []).drop (k+1)))∧V (suf x (k+1)) ((x.zJ.getD j []).drop (k+1)):=by
 have t1:=(h.tl j h2).1;have hl:=h.pl
 grind[zDn,zT]
theorem zSU{i j:Nat}(h1:k+1≤i)(h2:i+1≤j)(h3:j<x.zA.length):ixO x.zB (i:Int)=dJ (x.zB.getD i [])∧ixO (x.zB.getD i []) ((j:Int)-(i:Int)-1)=dJ (fv (k+1) (((x.zB.getD i []).getD (j-(i+1)) []).drop (k+1)))∧V (suf x (k+1)) (((x.zB.getD i []).getD (j-(i+1)) []).drop (k+1)):=by
 obtain⟨_,t2,t3⟩:=h.tl i (by omega)
 grind[zDn,zT]
theorem yAi:ixO x.zJ (k:Int)=dJ (fv (k+1) (lvl x k).w)∧V (suf x (k+1)) (lvl x k).w:=by have t1:=(h.tl k hk).1;have hl:=h.pl;obtain⟨e1,e2⟩:=zDn (k:=k+1) t1 (by omega) (by omega);exact⟨by rw[zT [] (by omega)];exact congrArg dJ e1,e2⟩
theorem zYJ{v:Vec}(hv:V (suf x (k+1)) v):V (suf x (k+1)) (sig (suf x (k+1)) (lvl x k) v):=by
 have ok0:=h.okAt (k:=k) (by omega)
 grind[zY,zDg]
theorem zJ4{j:Nat}(h1:k+1≤j)(h2:j<x.zA.length):zLf (x.zA.length:Int) (j:Int)=dJ (fv (k+1) (yZ (x.zA.length-(k+1)) (j-(k+1)))):=by
 have h6:=h.os.1;unfold zLf;rw[yK (by omega),bs,uZ,Kg,if_pos h2,bs,J8]
 congr 1
 rw[fv,zAX (by omega),←Jg];have e1:zeros (k+1)++zeros (j-(k+1))=zeros j:=by grind[zeros,Jl]
 have e2:J1 x.zA.length (0:Int)=zeros j++0::zeros (x.zA.length-(j+1)):=by simp only[zeros];rw[←Ju,Jl];grind
 grind[zEj]
theorem zQD{j:Nat}(h1:k+1≤j)(h2:j<x.zA.length):zF5 (x.zA.length:Int) (j:Int)=dJ (fv (k+1) (yZ (x.zA.length-(k+1)) (j-(k+1)))):=zJ4 h hk h1 h2
 include hc
theorem zAY{v:Vec}(hv:V (suf x (k+1)) v):f_S x k (fv (k+1) v)=dJ (fv (k+1) (sig (suf x (k+1)) (lvl x k) v)):=by
 have h6:=h.os.1;have ok:=h.okAt (k:=k+1) (by omega);have ok0:=h.okAt (k:=k) (by omega);rw[zY hk]at ok0;obtain⟨co,tp⟩:=zE2 h.os (x.zA.length-(k+1)) (k+1) v (by omega) hv;have gA:(lvl x k).cs.length=x.zA.length-(k+1):=by rw[ok0.2.2.1,yH]
 have t2:=(h.tl k hk).2.1;have dt:=h.cl;have hA:∀i,V (suf x (k+1)) (img (mul (suf x (k+1))) ((lvl x k).cs.take i) (v.take i) (zeros (suf x (k+1)).length)):=fun i=>
  kH (yV ok) _ _ (fun c hc=>ok0.2.2.2.1 c (by grind)) (xU ok)
 unfold f_S;rw[zDl h (by omega) hv,yK (by omega),bs,zT [] (by omega),bs,zP5 h (k:=k+1) (by omega)];have:=zM (body:=zUy x k (fv (k+1) v) (x.zB.getD k [])) (r:=fv (k+1) (sig (suf x (k+1)) (lvl x k) v))
  (fun i=>(fv (k+1) (img (mul (suf x (k+1))) ((lvl x k).cs.take i) (v.take i) (zeros (suf x (k+1)).length)),(i:Int))) (x.zB.getD k []).length (fun i hi=>by
  have hr:=tp i (by omega);obtain⟨c,c1,c2,c3,c4⟩:=zFb h hk (i:=i) (by omega);unfold zUy;simp only
  rw[yI hi,zK,c2,bs,zF (by omega) (by omega),bs,zF (by omega) (by omega),bs,show(k:Int)+1+(i:Int)=((k+1+i:Nat):Int)from by omega,fv,zMe (by omega),bs];rw[vN (S:=V (suf x (k+1))) (body:=zUx x (zeros (k+1)++c) (at0 v i)) (fun u=>fv (k+1) u) (fun u=>mul (suf x (k+1)) u c) (at0 v i) hr.1 (by grind[yV]) (fun u q hu hq=>by
   unfold zUx;simp only
   rw[dP hq,zK,zHQ h (by omega) hc hu c3,bs,zF (by omega) (by omega),bs,cs]) (fun u hu=>by
   unfold zUx;simp) (hA i),bs,zF (by omega) (by omega),bs,cs]
  rw[zCc _ _ _ _ (by omega) (by omega),c4]) (by
  unfold zUy;simp only
  rw[vR,zL,Jr (by omega),Jr (by omega)];rfl)
 simp only[Km,img]at this
 grind
theorem zDo{a b:Vec}(ha:V (suf x (k+1)) a):IsB (zIV (fv (k+1) a) (fv (k+1) b)) (a=b):=by
 have _:=hc;have h6:=h.os.1
 grind[zCw,zDl,IsB.of_bool,yAh]
theorem zMk{c:Vec}(cV:V (suf x (k+1)) c){e:Int}(e0:0≤e)(e1:e≤1000):zXi x ((k+1:Nat):Int) (fv (k+1) c) e=dJ (fv (k+1) (pw (mul (suf x (k+1))) (zeros (suf x (k+1)).length) c e.toNat)):=by
 have h6:=h.os.1;have ok:=h.okAt (k:=k+1) (by omega);have G:=zHO h (k:=k+1) (by omega) hc;have hA:=zP4 h (k:=k+1) (by omega);have pwV:∀a,V (suf x (k+1)) (pw (mul (suf x (k+1))) (zeros (suf x (k+1)).length) c a):=fun a=>tP G.toMon cV a
 unfold zXi;rw[yK (by omega),bs,zP5 h (k:=k+1) (by omega)];obtain⟨r,r1,r2⟩:=zHR (body:=zQh x ((k+1:Nat):Int)) (Q:=fun r=>r=fv (k+1) (pw (mul (suf x (k+1))) (zeros (suf x (k+1)).length) c e.toNat))
  (fun s=> ∃(m a q:Nat),s=((m:Int),fv (k+1) (pw (mul (suf x (k+1))) (zeros (suf x (k+1)).length) c a),fv (k+1) (pw (mul (suf x (k+1))) (zeros (suf x (k+1)).length) c q))∧a+q*m=e.toNat∧m≤1000) (fun s=>s.1.toNat) (fun s ⟨m,a,q,hs,he,hm⟩=>by
   subst hs;unfold zQh;simp only
   by_cases hm0:m=0
   ·grind
   ·left
    have hr:xR (m:Int) 2=dJ ((m%2:Nat):Int):=by rfl
    have hq:wS (m:Int) 2=dJ ((m/2:Nat):Int):=by
     unfold wS;rw[if_neg (by decide),G4 (by omega)]
     grind[zF]
    have mw:=Gf m 2;have bB:mul (suf x (k+1)) (pw (mul (suf x (k+1))) (zeros (suf x (k+1)).length) c q) (pw (mul (suf x (k+1))) (zeros (suf x (k+1)).length) c q)=pw (mul (suf x (k+1))) (zeros (suf x (k+1)).length) c (q+q):=(zHK G.toMon cV q q).symm;rw[dP (by omega),zK,hr,bs];rcases Nat.mod_two_eq_zero_or_one m with h2|h2
    ·rw[h2,show((((0:Nat):Int))==1)=dM from rfl,zL,hA _ _ (pwV q) (pwV q),bs,hq,bs,bB]
     refine⟨_,rfl,⟨m/2,a,q+q,rfl,?_,by omega⟩,by omega⟩
     grind
    ·rw[h2,show((((1:Nat):Int))==1)=dL from rfl,zK,hA _ _ (pwV a) (pwV q),bs,hA _ _ (pwV q) (pwV q),bs,hq,bs,bB,←zHK G.toMon cV a q]
     refine⟨_,rfl,⟨m/2,a+q,q+q,rfl,?_,by omega⟩,by omega⟩
     grind) 1000000 (e,fv (k+1) (zeros (suf x (k+1)).length),fv (k+1) c) (by omega) ⟨e.toNat,0,1,by rw[zSO G.toMon cV,show((e.toNat:Nat):Int)=e from by omega];rfl,by omega,by omega⟩
 grind
end
end Go.Pl

namespace Go.Pl
open Go Go.Ab Go.Wk Go.Pc
def yCC(o:Option yX)(P:Prop):Prop:=(o=dJ (yX.mk 0 0 0 0)∧P)∨ ∃r,o=dJ r∧r.Kind≠0∧ ¬P
theorem kb{a b c d:Int}(h:a≠0):(yX.mk a b c d).Kind≠0:=h
abbrev KB(r:yX):Prop:=r.Kind≠0
theorem zCd{o:Option Bool}{P:Prop}{bad:yX}{i:Nat}{g:Option (Int⊕(Unit⊕yX))}(h:IsB o P)(hi:i<9223372036854775807)(hbad:bad.Kind≠0)
  (hg:g=o.bind fun r=>cond (!r) (dJ (.inr (.inr bad))) ((rng ((i:Int)+1)).bind fun v=>dJ (.inl v))):(g=dJ (.inl ((i+1:Nat):Int))∧P)∨(∃r,g=dJ (.inr (.inr r))∧KB r∧ ¬P):=by
 rcases uP h hi hg with h|⟨h1,h2⟩
 all_goals grind
section
variable {x:SPr} (h:Pres x) {k:Nat} (hk:k<x.zA.length) (hc:xK (suf x (k+1)))
 include h hk hc
theorem zHS:yCC (f_w x k) (LC x k):=by
 have h6:=h.os.1;have ok:=h.okAt (k:=k+1) (by omega);have G:=zHO h (k:=k+1) (by omega) hc;obtain⟨w1,w2⟩:=yAi h hk;have c9:∀v,V (suf x (k+1)) v→V (suf x (k+1)) (sig (suf x (k+1)) (lvl x k) v):=by grind[zYJ]
 unfold f_w;rw[zF (by omega) (by omega),bs,cs];rcases zMj (body:=zU3 x k) x.zA.length (k+1) (by omega) (fun j=>pw (mul (suf x (k+1))) (zeros (suf x (k+1)).length) ((lvl x k).cs.getD (j-(k+1)) []) (at0 x.zA j).toNat=sig (suf x (k+1)) (lvl x k) ((x.zJ.getD j []).drop (k+1))) KB (fun j h1 h2 _=>by
   obtain⟨c1,c2,c3⟩:=zA8 h hk h1 h2;obtain⟨p1,p2⟩:=zST h hk h1 h2;have fE:=(h.os.2 j h2).pos;refine zCd (zDo h hk hc (tP G.toMon c3 (at0 x.zA j).toNat)) (by omega) (bad:=yX.mk 1 k j 0) (kb (by decide)) ?_;unfold zU3;rw[yI h2,zK,c1,bs,zF (by omega) (by omega),bs,zF (by omega) (by omega),bs,c2,bs,yF h2,bs,zNN h (by omega) hc c3 (by omega) (by omega),bs,p1,bs,zAY h hk hc p2,bs]) (by
   unfold zU3;simp)with⟨g1,g2⟩|⟨r,j,j1,j2,g1,g2,g3⟩
 rotate_left
 ·rw[g1,bs]
  exact .inr ⟨r,rfl,g2,fun q=>g3 (q.c1 j j1 j2)⟩
 rw[g1,bs];simp only
 rw[bs];rcases zMj (body:=zU5 x k) x.zA.length (k+1) (by omega) (fun i=> ∀j,i+1≤j→j<x.zA.length→
   mul (suf x (k+1)) ((lvl x k).cs.getD (j-(k+1)) []) ((lvl x k).cs.getD (i-(k+1)) [])=mul (suf x (k+1)) ((lvl x k).cs.getD (i-(k+1)) []) (sig (suf x (k+1)) (lvl x k) (((x.zB.getD i []).getD (j-(i+1)) []).drop (k+1)))) KB (fun i h1 h2 _=>by
   obtain⟨c1,c2,c3⟩:=zA8 h hk h1 h2;unfold zU5;rw[yI h2,zK,zF (by omega) (by omega),bs,cs];rcases zMj (body:=zU4 x k i) x.zA.length (i+1) (by omega) (fun j=>mul (suf x (k+1)) ((lvl x k).cs.getD (j-(k+1)) []) ((lvl x k).cs.getD (i-(k+1)) [])=mul (suf x (k+1)) ((lvl x k).cs.getD (i-(k+1)) []) (sig (suf x (k+1)) (lvl x k) (((x.zB.getD i []).getD (j-(i+1)) []).drop (k+1)))) KB (fun j h3 h4 _=>by
     obtain⟨d1,d2,d3⟩:=zA8 h hk (j:=j) (by omega) h4;obtain⟨e1,e2,e3⟩:=zSU h hk h1 h3 h4;obtain⟨q,q1,q2,q3⟩:=zDm h (by omega) hc d3 c3;refine zCd ((zDo h hk hc (b:=sig (suf x (k+1)) (lvl x k) (((x.zB.getD i []).getD (j-(i+1)) []).drop (k+1))) q1).iff (Q:=mul (suf x (k+1)) ((lvl x k).cs.getD (j-(k+1)) []) ((lvl x k).cs.getD (i-(k+1)) [])=mul (suf x (k+1)) ((lvl x k).cs.getD (i-(k+1)) []) (sig (suf x (k+1)) (lvl x k) (((x.zB.getD i []).getD (j-(i+1)) []).drop (k+1)))) ?_) (by omega) (bad:=yX.mk 2 k i j) (kb (by decide)) ?_
     ·exact⟨by grind,fun e=>G.cancel_l c3 q1 (c9 _ e3) (by rw[q2,e])⟩
     ·unfold zU4
      rw[yI h4,zK,d1,bs,zF (by omega) (by omega),bs,zF (by omega) (by omega),bs,d2,bs,bs,zF (by omega) (by omega),bs,zF (by omega) (by omega),bs,c2,bs,q3,bs,e1,bs,zF (by omega) (by omega),bs,zF (by omega) (by omega),bs,e2,bs,zAY h hk hc e3,bs]) (by
     unfold zU4;simp)with⟨g1,g2⟩|⟨r,j,j1,j2,g1,g2,g3⟩
   ·grind
   grind) (by
   unfold zU5;simp)with⟨k1,k2⟩|⟨r,j,j1,j2,k1,k2,k3⟩
 rotate_left
 ·rw[k1,bs]
  exact .inr ⟨r,rfl,k2,fun q=>k3 (q.c2 j j1 j2)⟩
 rw[k1,bs];simp only
 rw[w1,bs,zAY h hk hc w2,bs];rcases zDo h hk hc (b:=(lvl x k).w) (c9 _ w2)with⟨m1,m2⟩|⟨m1,m2⟩
 rotate_left
 ·rw[m1,bs,Jy,zK]
  exact .inr ⟨_,rfl,kb (by decide),fun q=>m2 q.c3⟩
 rw[m1,bs,Ja,zL,bs];rcases zMj (body:=zU7 x k (fv (k+1) (lvl x k).w)) x.zA.length (k+1) (by omega) (fun j=>mul (suf x (k+1)) (lvl x k).w (iter (lvl x k).o.toNat (sig (suf x (k+1)) (lvl x k)) (yZ (x.zA.length-(k+1)) (j-(k+1))))=mul (suf x (k+1)) (yZ (x.zA.length-(k+1)) (j-(k+1))) (lvl x k).w) KB (fun j h1 h2 _=>by
   have hU:=zNM h (k:=k+1) (by omega) hc (i:=j-(k+1)) (by omega);have fE:=(h.os.2 k hk).pos;obtain⟨q,q1,q2,q3⟩:=zDm h (k:=k+1) (by omega) hc hU w2;have ef:V (suf x (k+1)) (iter (lvl x k).o.toNat (sig (suf x (k+1)) (lvl x k)) (yZ (x.zA.length-(k+1)) (j-(k+1)))):=vG c9 _ hU;refine zCd ((zDo h hk hc (b:=q) ef).iff ⟨by grind,fun e=>G.cancel_l w2 ef q1 (by rw[e,q2])⟩) (by omega) (bad:=yX.mk 4 k j 0) (kb (by decide)) ?_;unfold zU7;rw[yI h2,zK,zJ4 h hk h1 h2,bs,yF hk,bs];rw[vN (S:=V (suf x (k+1))) (body:=zU6 x k (at0 x.zA k)) (fun u=>fv (k+1) u) (sig (suf x (k+1)) (lvl x k)) (at0 x.zA k) (by omega) c9 (fun u i hu hi=>by
    unfold zU6;simp only
    rw[dP hi,zK,zAY h hk hc hu,bs,zF (by omega) (by omega),bs,cs]) (fun u hu=>by
    unfold zU6;simp) hU,bs,bs,q3,bs]
   rfl) (by
   unfold zU7;simp)with⟨n1,n2⟩|⟨r,j,j1,j2,n1,n2,n3⟩
 ·rw[n1,bs]
  exact .inl ⟨rfl,⟨g2,k2,m2,n2⟩⟩
 ·rw[n1,bs]
  exact .inr ⟨r,rfl,n2,fun q=>n3 (q.c4 j j1 j2)⟩
theorem zNO:yCC (f_x x k) (LC x k):=by
 have h6:=h.os.1;have ok:=h.okAt (k:=k+1) (by omega);have G:=zHO h (k:=k+1) (by omega) hc;obtain⟨w1,w2⟩:=yAi h hk;have hA:=zP4 h (k:=k+1) (by omega);have hI:=zNK h hk;have c9:∀v,V (suf x (k+1)) v→V (suf x (k+1)) (sig (suf x (k+1)) (lvl x k) v):=by grind[zYJ]
 have eqB:∀{a b:Vec},V (suf x (k+1)) a→IsB (f_Z (fv (k+1) a) (fv (k+1) b)) (a=b):=fun ha=>zDo h hk hc ha
 unfold f_x;rw[zF (by omega) (by omega),bs,cs];rcases zMj (body:=zUf x k) x.zA.length (k+1) (by omega) (fun j=>pw (mul (suf x (k+1))) (zeros (suf x (k+1)).length) ((lvl x k).cs.getD (j-(k+1)) []) (at0 x.zA j).toNat=sig (suf x (k+1)) (lvl x k) ((x.zJ.getD j []).drop (k+1))) KB (fun j h1 h2 _=>by
   obtain⟨c1,c2,c3⟩:=zA8 h hk h1 h2;obtain⟨p1,p2⟩:=zST h hk h1 h2;have fE:=(h.os.2 j h2).pos;refine zCd (eqB (tP G.toMon c3 (at0 x.zA j).toNat)) (by omega) (bad:=yX.mk 1 k j 0) (kb (by decide)) ?_;unfold zUf;rw[yI h2,zK,zF (by omega) (by omega),bs,cs,c1,bs,zF (by omega) (by omega),bs,zF (by omega) (by omega),bs,c2,bs,yF h2,bs,zMk h hk hc c3 (by omega) (by omega),bs,p1,bs,hI _ p2,bs]) (by
   unfold zUf;simp)with⟨g1,g2⟩|⟨r,j,j1,j2,g1,g2,g3⟩
 rotate_left
 ·rw[g1,bs]
  exact .inr ⟨r,rfl,g2,fun q=>g3 (q.c1 j j1 j2)⟩
 rw[g1,bs];simp only
 rw[bs];rcases zMj (body:=zUh x k) x.zA.length (k+1) (by omega) (fun i=> ∀j,i+1≤j→j<x.zA.length→
   mul (suf x (k+1)) ((lvl x k).cs.getD (j-(k+1)) []) ((lvl x k).cs.getD (i-(k+1)) [])=mul (suf x (k+1)) ((lvl x k).cs.getD (i-(k+1)) []) (sig (suf x (k+1)) (lvl x k) (((x.zB.getD i []).getD (j-(i+1)) []).drop (k+1)))) KB (fun i h1 h2 _=>by
   obtain⟨c1,c2,c3⟩:=zA8 h hk h1 h2;unfold zUh;rw[yI h2,zK,zF (by omega) (by omega),bs,cs];rcases zMj (body:=zUg x k i) x.zA.length (i+1) (by omega) (fun j=>mul (suf x (k+1)) ((lvl x k).cs.getD (j-(k+1)) []) ((lvl x k).cs.getD (i-(k+1)) [])=mul (suf x (k+1)) ((lvl x k).cs.getD (i-(k+1)) []) (sig (suf x (k+1)) (lvl x k) (((x.zB.getD i []).getD (j-(i+1)) []).drop (k+1)))) KB (fun j h3 h4 _=>by
     obtain⟨d1,d2,d3⟩:=zA8 h hk (j:=j) (by omega) h4;obtain⟨e1,e2,e3⟩:=zSU h hk h1 h3 h4;refine zCd (eqB (yV ok d3 c3)) (by omega) (bad:=yX.mk 2 k i j) (kb (by decide)) ?_;unfold zUg;rw[yI h4,zK,d1,bs,zF (by omega) (by omega),bs,zF (by omega) (by omega),bs,c2,bs,bs,zF (by omega) (by omega),bs,zF (by omega) (by omega),bs,d2,bs,e1,bs,zF (by omega) (by omega),bs,zF (by omega) (by omega),bs,e2,bs,hI _ e3,bs,zF (by omega) (by omega),bs,cs,hA _ _ d3 c3,bs,bs,hA _ _ c3 (c9 _ e3),bs]) (by
     unfold zUg;simp)with⟨g1,g2⟩|⟨r,j,j1,j2,g1,g2,g3⟩
   ·grind
   grind) (by
   unfold zUh;simp)with⟨k1,k2⟩|⟨r,j,j1,j2,k1,k2,k3⟩
 rotate_left
 ·rw[k1,bs]
  exact .inr ⟨r,rfl,k2,fun q=>k3 (q.c2 j j1 j2)⟩
 rw[k1,bs];simp only
 rw[w1,bs,hI _ w2,bs];rcases eqB (b:=(lvl x k).w) (c9 _ w2)with⟨m1,m2⟩|⟨m1,m2⟩
 rotate_left
 ·rw[m1,bs,Jy,zK]
  exact .inr ⟨_,rfl,kb (by decide),fun q=>m2 q.c3⟩
 rw[m1,bs,Ja,zL,bs];rcases zMj (body:=zUj x k (fv (k+1) (lvl x k).w)) x.zA.length (k+1) (by omega) (fun j=>mul (suf x (k+1)) (lvl x k).w (iter (lvl x k).o.toNat (sig (suf x (k+1)) (lvl x k)) (yZ (x.zA.length-(k+1)) (j-(k+1))))=mul (suf x (k+1)) (yZ (x.zA.length-(k+1)) (j-(k+1))) (lvl x k).w) KB (fun j h1 h2 _=>by
   have hU:=zNM h (k:=k+1) (by omega) hc (i:=j-(k+1)) (by omega);have fE:=(h.os.2 k hk).pos;have ef:V (suf x (k+1)) (iter (lvl x k).o.toNat (sig (suf x (k+1)) (lvl x k)) (yZ (x.zA.length-(k+1)) (j-(k+1)))):=vG c9 _ hU;refine zCd (eqB (yV ok w2 ef)) (by omega) (bad:=yX.mk 4 k j 0) (kb (by decide)) ?_;unfold zUj;rw[yI h2,zK,zQD h hk h1 h2,bs];rw[vN (S:=V (suf x (k+1))) (body:=zUi x k) (fun u=>fv (k+1) u) (sig (suf x (k+1)) (lvl x k)) (at0 x.zA k) (by omega) c9 (fun u i hu hi=>by
    unfold zUi;simp only
    rw[yF hk,bs,dP hi,zK,hI _ hu,bs,zF (by omega) (by omega),bs,cs]) (fun u hu=>by
    unfold zUi;simp only
    rw[yF hk,bs,dO (by omega),zL]) hU,bs,zF (by omega) (by omega),bs,cs]
   have ho:(lvl x k).o=at0 x.zA k:=rfl;rw[←ho,hA _ _ w2 ef,bs,bs,hA _ _ hU w2,bs]) (by
   unfold zUj;simp)with⟨n1,n2⟩|⟨r,j,j1,j2,n1,n2,n3⟩
 ·rw[n1,bs]
  exact .inl ⟨rfl,⟨g2,k2,m2,n2⟩⟩
 ·rw[n1,bs]
  exact .inr ⟨r,rfl,n2,fun q=>n3 (q.c4 j j1 j2)⟩
end
end Go.Pl

namespace Go.Pl
open Go Go.Ab Go.Wk Go.Pc
theorem zFU{m:Vec→Vec→Vec}:∀(i:Nat)(cs:List Vec)(w acc:Vec),i≤cs.length→img m cs (zeros i++w) acc=img m (cs.drop i) w acc
 |0,cs,w,acc,_=>rfl
 |i+1,[],w,acc,h=>by simp at h
 |i+1,c::cs,w,acc,h=>by show img m (c::cs) (0::(zeros i++w)) acc=_;simp only[img,G3,iter,List.drop_succ_cons];exact zFU i cs w acc (by grind)
theorem zHT{x:SPr}{v:List Int}{j k:Nat}(h:Exp x.zA v j)(hj:j<x.zA.length)(hk:k≤j+1):v.drop k=zeros (j+1-k)++v.drop (j+1):=by
 have:=zBd h hj
 grind[zeros]
section
variable {x:SPr} (h:zEi x) {k:Nat} (hk:k<x.zA.length)
 include h hk
theorem zBe:(lvl x k).cs.length=x.zA.length-(k+1):=by have ok0:=h.okAt (k:=k) (by omega);rw[zY hk]at ok0;rw[ok0.2.2.1,yH]
theorem zW6{j:Nat}(h1:k+1≤j)(h2:j<x.zA.length):sig (suf x (k+1)) (lvl x k) ((x.zJ.getD j []).drop (k+1))=img (mul (suf x (k+1))) ((lvl x k).cs.drop (j-k)) (lvl x j).w (zeros (suf x (k+1)).length):=by have t1:=(h.tl j h2).1;have gA:=zBe h hk;rw[zHT t1 h2 (by omega),sig,zFU _ _ _ _ (by omega),show j+1-(k+1)=j-k from by omega];rfl
theorem zP6:∀(d i:Nat),k+1+i+d=x.zA.length→(Rel (mul (suf x (k+1))) (zeros (suf x (k+1)).length) (suf x (k+1+i)) ((lvl x k).cs.drop i)↔
  (∀j,k+1+i≤j→j<x.zA.length→pw (mul (suf x (k+1))) (zeros (suf x (k+1)).length) ((lvl x k).cs.getD (j-(k+1)) []) (at0 x.zA j).toNat=sig (suf x (k+1)) (lvl x k) ((x.zJ.getD j []).drop (k+1)))∧
  (∀a,k+1+i≤a→a<x.zA.length→ ∀j,a+1≤j→j<x.zA.length→
   mul (suf x (k+1)) ((lvl x k).cs.getD (j-(k+1)) []) ((lvl x k).cs.getD (a-(k+1)) [])=mul (suf x (k+1)) ((lvl x k).cs.getD (a-(k+1)) []) (sig (suf x (k+1)) (lvl x k) (((x.zB.getD a []).getD (j-(a+1)) []).drop (k+1)))))
 |0,i,hi=>by
  have gA:=zBe h hk;rw[vA (x:=x) (k:=k+1+i) (by omega),Gi (by omega)];simp only[Rel,true_iff]
  grind
 |d+1,i,hi=>by
  have gA:=zBe h hk;have ih:=zP6 d (i+1) (by omega);rw[show k+1+(i+1)=k+1+i+1 from by omega]at ih;have hj:k+1+i<x.zA.length:=by omega
  have hg:(lvl x k).cs.drop i=(lvl x k).cs.getD i []::(lvl x k).cs.drop (i+1):=by rw[Gs (by omega),J3,J7 (by omega)];rfl
  rw[zY hj,hg];simp only[Rel];rw[ih];have e1:=zW6 h hk (j:=k+1+i) (by omega) hj;rw[show k+1+i-k=i+1 from by omega]at e1;have ho:(lvl x (k+1+i)).o=at0 x.zA (k+1+i):=rfl;rw[ho,←e1];have e2:∀j,k+1+i+1≤j→j<x.zA.length→ ∀dd,(lvl x (k+1+i)).cs[j-(k+1+i+1)]? =dJ dd→img (mul (suf x (k+1))) ((lvl x k).cs.drop (i+1)) dd (zeros (suf x (k+1)).length)=sig (suf x (k+1)) (lvl x k) (((x.zB.getD (k+1+i) []).getD (j-(k+1+i+1)) []).drop (k+1)):=fun j h1 h2 dd hdd=>by
   obtain⟨_,t2,t3⟩:=h.tl (k+1+i) hj;have t:=t3 (j-(k+1+i+1)) (by omega);rw[zHT t hj (by omega),sig,zFU _ _ _ _ (by omega),show k+1+i+1-(k+1)=i+1 from by omega]
   congr 1
   simp only[lvl,K4,Kk]at hdd
   grind
  have e3:∀j,k+1+i+1≤j→j<x.zA.length→((lvl x k).cs.drop (i+1))[j-(k+1+i+1)]? =dJ ((lvl x k).cs.getD (j-(k+1)) [])∧ ∃dd,(lvl x (k+1+i)).cs[j-(k+1+i+1)]? =dJ dd:=fun j h1 h2=>by
   have dt:=zBe h hj;refine⟨?_,?_⟩
   ·rw[Lm,show i+1+(j-(k+1+i+1))=j-(k+1)from by omega,J3,J7 (by omega)];rfl
   ·exact⟨_,J7 (by omega)⟩
  constructor
  ·rintro⟨a1,a2,a3,a4⟩
   refine⟨fun j h1 h2=>?_,fun a h1 h2 j h3 h4=>?_⟩
   ·rcases Jn (k+1+i) j with gF|hge
    ·grind
    ·obtain rfl:j=k+1+i:=by omega
     rw[show k+1+i-(k+1)=i from by omega];exact a1
   ·rcases Jn (k+1+i) a with gF|hge
    ·exact a4 a (by omega) h2 j h3 h4
    ·obtain rfl:a=k+1+i:=by omega
     obtain⟨f1,dd,f2⟩:=e3 j (by omega) h4;have:=a2 _ _ _ f1 f2;rw[e2 j (by omega) h4 dd f2]at this;rw[show k+1+i-(k+1)=i from by omega];exact this
  ·rintro⟨a1,a2⟩
   refine⟨?_,fun kk c dd h1 h2=>?_,by grind,by grind⟩
   ·have:=a1 (k+1+i) (by omega) hj
    rw[show k+1+i-(k+1)=i from by omega]at this;exact this
   ·have gF:kk<x.zA.length-(k+1+i+1):=by
     have:=(Jo.1 h1).1;rw[Kr]at this;omega
    have g:=a2 (k+1+i) (by omega) hj (k+1+i+1+kk) (by omega) (by omega);obtain⟨f1,_⟩:=e3 (k+1+i+1+kk) (by omega) (by omega);rw[show k+1+i+1+kk-(k+1+i+1)=kk from by omega]at f1 g;rw[h1]at f1;have f1:=Ll.inj f1;have g2:=e2 (k+1+i+1+kk) (by omega) (by omega) dd (by rw[show k+1+i+1+kk-(k+1+i+1)=kk from by omega];exact h2);rw[show k+1+i+1+kk-(k+1+i+1)=kk from by omega]at g2;rw[g2,f1];rw[show k+1+i-(k+1)=i from by omega]at g;exact g
theorem zA9:xK (suf x k)↔xK (suf x (k+1))∧LC x k:=by
 have hr:=zP6 h hk (x.zA.length-(k+1)) 0 (by omega);have hl:=yH x (k+1);rw[G9,Jad]at hr;rw[zY hk];simp only[xK];rw[hr];constructor
 ·rintro⟨a,⟨b1,b2⟩,c,d⟩
  refine⟨a,⟨b1,b2,c,fun j h1 h2=>?_⟩⟩
  grind
 ·rintro⟨a,b⟩
  refine⟨a,⟨b.c1,b.c2⟩,b.c3,fun j hj=>?_⟩;have:=b.c4 (k+1+j) (by omega) (by omega);rw[show k+1+j-(k+1)=j from by omega]at this
  rwa [hl]
end
theorem zBf{x:SPr}(h:xK (suf x 0))(k:Nat):xK (suf x k):=by
 have:=zFc h k
 grind
def zBo(x:SPr):Prop:=Pres x∧xK (suf x 0)∧sU x
theorem kI{x:SPr}(hl:x.zA.length≤1048576):IsB (zIC x) (zBo x):=by
 unfold zIC;rcases qJ hl with⟨h1,h2⟩|⟨h1,h2⟩
 ·have h6:=h2.os.1
  rw[h1,bs,zK];unfold zRn;obtain⟨r,r1,r2⟩:=uK (body:=zG9 x) (Q:=fun r=> ∃s:Nat,r=(s:Int)∧xK (suf x s)∧(s=0∨ ¬xK (suf x (s-1)))) (fun i s=>i≤x.zA.length∧s=((x.zA.length-i:Nat):Int)∧xK (suf x (x.zA.length-i))) x.zA.length (fun i s hi ⟨_,hs,gP⟩=>by
    subst hs;have hk:x.zA.length-i-1<x.zA.length:=by omega
    have e9:x.zA.length-(i+1)=x.zA.length-i-1:=by omega
    rw[e9];have e8:i+1≤x.zA.length:=by omega
    rw[show x.zA.length-i=x.zA.length-i-1+1 from by omega]at gP ⊢
    have cK:=zHS h2.toPres hk gP;have cP:=zA9 h2.toPres.w hk
    generalize x.zA.length-i-1=k at*
    unfold zG9;rw[dP (by omega),zK,zF (by omega) (by omega),bs,show(((k+1:Nat):Int)-1)=(k:Int)from by omega];rcases cK with⟨g1,g2⟩|⟨r,g1,g2,g3⟩
    ·simp_all
    grind) (fun s ⟨_,hs,gP⟩=>by
    rw[Ku]at hs gP;subst hs;unfold zG9
    grind) (s:=(x.zA.length:Int)) ⟨by omega,by rfl,by rw[Qn,vA (by omega)];simp only[xK]⟩
  obtain⟨s,rfl,gP,hs⟩:=r2;rw[r1,bs,bs];cases s with
  |zero=>exact .inl ⟨rfl,h2.toPres,gP,h2⟩
  |succ s=>
   refine .inr ⟨?_,fun q=>?_⟩
   ·congr 1
   ·rcases hs with hs|hs
    ·omega
    ·exact hs (zBf q.2.1 _)
 ·rw[h1,bs,zL]
  exact .inr ⟨rfl,fun q=>h2 q.2.2⟩
theorem zHU{x:SPr}(hl:x.zA.length≤1048576):IsB (zUk x) (zBo x):=by
 unfold zUk;rcases wX hl with⟨h1,h2⟩|⟨h1,h2⟩
 ·have h6:=h2.os.1
  rw[h1,bs,zK];unfold yAJ yAI;rw[zF (by omega) (by omega),bs];obtain⟨r,r1,r2⟩:=uK (body:=zMT x) (Q:=fun r=>(r=.inl ()∧xK (suf x 0))∨ ∃f,r=.inr f∧f.Kind≠0∧ ¬xK (suf x 0)) (fun i s=>i≤x.zA.length∧s=((x.zA.length-i:Nat):Int)-1∧xK (suf x (x.zA.length-i))) x.zA.length (fun i s hi ⟨_,hs,gP⟩=>by
    subst hs;have hk:x.zA.length-i-1<x.zA.length:=by omega
    have e9:x.zA.length-(i+1)=x.zA.length-i-1:=by omega
    rw[e9];have e8:i+1≤x.zA.length:=by omega
    rw[show x.zA.length-i=x.zA.length-i-1+1 from by omega]at gP ⊢
    have cK:=zNO h2.toPres hk gP;have cP:=zA9 h2.toPres.w hk
    generalize x.zA.length-i-1=k at*
    unfold zMT;rw[show(((k+1:Nat):Int)-1)=(k:Int)from by omega,dP (by omega),zK];rcases cK with⟨g1,g2⟩|⟨r,g1,g2,g3⟩
    ·left
     rw[g1,bs];simp only
     rw[show((0:Int) != 0)=dM from rfl,zL,zF (by omega) (by omega),bs]
     grind
    ·right
     rw[g1,bs,show(r.Kind != 0)=dL from by grind,zK];exact⟨_,rfl,.inr ⟨r,rfl,g2,by grind[zBf]⟩⟩) (fun s ⟨_,hs,gP⟩=>by
    rw[Ku]at hs gP;subst hs;unfold zMT
    grind) (s:=(x.zA.length:Int)-1) ⟨by omega,by rfl,by rw[Qn,vA (by omega)];simp only[xK]⟩
  rw[r1,bs];rcases r2 with⟨rfl,q⟩|⟨f,rfl,g1,g2⟩
  ·exact .inl ⟨rfl,h2.toPres,q,h2⟩
  ·simp only
   rw[bs,show(f.Kind==0)=dM from by grind];exact .inr ⟨rfl,fun q=>g2 q.2.1⟩
 ·rw[h1,bs,zL]
  exact .inr ⟨rfl,fun q=>h2 q.2.2⟩
end Go.Pl

namespace Go.Pl
open Go Go.Ab Go.Wk
abbrev Mx:=List (List Int)
def S:Nat→(Nat→Int)→Int
 |0,_=>0
 |n+1,f=>S n f+f n
theorem xL{n:Nat}{f g:Nat→Int}(h:∀i,i<n→f i=g i):S n f=S n g:=by
 induction n with
 |zero=>rfl
 |succ n ih=>grind[S]
theorem zAA{p:Int}{f g:Nat→Int}:∀{n:Nat},(∀i,i<n→f i%p=g i%p)→S n f%p=S n g%p
 |0,_=>rfl
 |n+1,h=>by simp only[S];rw[K9,zAA (n:=n) fun i hi=>h i (by omega),h n (by omega),←K9]
theorem qK:∀n:Nat,S n (fun _=>0)=0
 |0=>rfl
 |n+1=>by simp only[S,qK n];rfl
theorem zDp{f g:Nat→Int}:∀n:Nat,S n (fun i=>f i+g i)=S n f+S n g
 |0=>rfl
 |n+1=>by simp only[S,zDp n];omega
theorem zMl{f:Nat→Int}(a:Int):∀n:Nat,S n (fun i=>f i*a)=S n f*a
 |0=>by simp[S]
 |n+1=>by simp only[S,zMl a n,Int.add_mul]
theorem zDq{f:Nat→Int}(a:Int):∀n:Nat,S n (fun i=>a*f i)=a*S n f
 |0=>by simp[S]
 |n+1=>by simp only[S,zDq a n,Int.mul_add]
theorem zHV{f:Nat→Nat→Int}(m:Nat):∀n:Nat,S n (fun i=>S m (fun j=>f i j))=S m (fun j=>S n (fun i=>f i j))
 |0=>by simp only[S];grind[qK]
 |n+1=>by simp only[S];rw[zHV m n,zDp]
theorem zAR{f:Nat→Int}{k:Nat}:∀{n:Nat},k<n→(∀i,i<n→i≠k→f i=0)→S n f=f k
 |0,h,_=>by omega
 |n+1,h,hz=>by
  simp only[S]
  by_cases hk:k=n
  ·subst hk
   rw[xL (g:=fun _=>0) fun i hi=>hz i (by omega) (by omega),qK];omega
  ·rw[zAR (n:=n) (by omega) fun i hi=>hz i (by omega),hz n (by omega) (by omega)];omega
def mkv(D:Nat)(f:Nat→Int):List Int:=(Jh D).map f
theorem zU(D:Nat)(f:Nat→Int):(mkv D f).length=D:=by simp[mkv]
theorem zDG{D:Nat}{f:Nat→Int}{i:Nat}(h:i<D):(mkv D f)[i]? =dJ (f i):=by simp[mkv,h]
theorem yC{D:Nat}{f:Nat→Int}{i:Nat}(h:i<D):at0 (mkv D f) i=f i:=by rw[at0,J3,zDG h];rfl
theorem yA{D:Nat}{f g:Nat→Int}(h:∀i,i<D→f i=g i):mkv D f=mkv D g:=by grind[mkv,U4]
theorem qX{D:Nat}{f:Nat→Int}{j:Nat}{a:Int}:(mkv D f).set j a=mkv D (fun i=>if i=j then a else f i):=by
 apply Kl;intro i;rw[Ja6,zU]
 by_cases hi:i<D
 ·by_cases eg:j=i
  ·subst eg;rw[if_pos rfl,if_pos hi,zDG hi,if_pos rfl]
  ·rw[if_neg eg,zDG hi,zDG hi,if_neg fun h=>eg h.symm]
 ·have h1:∀g:Nat→Int,(mkv D g)[i]? =dK:=by grind[zU]
  grind
theorem vC{v:List Int}{D:Nat}(h:v.length=D):v=mkv D (at0 v):=by
 apply Kl;intro i
 by_cases hi:i<D
 ·rw[zDG hi,at0,J3,J7 (by omega)];rfl
 grind[zU]
theorem vX(D:Nat):J1 D (0:Int)=mkv D (fun _=>0):=by
 apply Kl
 grind[zDG,zU]
abbrev ent(B:Mx)(l j:Nat):Int:=at0 (B.getD l []) j
def xJ(p:Int)(D:Nat)(r:List Int)(B:Mx):List Int:=mkv D fun j=>S D (fun l=>at0 r l*ent B l j)%p
def PM(p:Int)(D:Nat)(A B:Mx):Mx:=A.map fun r=>xJ p D r B
def idM(D:Nat):Mx:=(Jh D).map fun i=>mkv D fun j=>if j=i then 1 else 0
def Row(p:Int)(D:Nat)(r:List Int):Prop:=r.length=D∧ ∀i,i<D→0≤at0 r i∧at0 r i≤p-1
def Mat(p:Int)(D:Nat)(A:Mx):Prop:=A.length=D∧ ∀i,i<D→Row p D (A.getD i [])
theorem zCx{p:Int}{D i:Nat}{A B:Mx}(h:i<A.length):(PM p D A B).getD i []=xJ p D (A.getD i []) B:=by grind[PM]
theorem uL{p:Int}{D:Nat}{A B:Mx}:(PM p D A B).length=A.length:=by simp[PM]
theorem zDr{p:Int}{D:Nat}{A B:Mx}(hp:0<p)(hA:A.length=D):Mat p D (PM p D A B):=by refine⟨by rw[uL,hA],fun i hi=>?_⟩;rw[zCx (by omega)];refine⟨by rw[xJ,zU],fun j hj=>?_⟩;rw[xJ,yC hj];have h1:=Kv (S D fun l=>at0 (A.getD i []) l*ent B l j) (show p≠0 by omega);have h2:=Ki (S D fun l=>at0 (A.getD i []) l*ent B l j) hp;omega
theorem zNP{p:Int}{D i j:Nat}{A B:Mx}(hA:A.length=D)(hi:i<D)(hj:j<D):ent (PM p D A B) i j=S D (fun l=>ent A i l*ent B l j)%p:=by rw[ent,zCx (by omega),xJ,yC hj]
theorem zHW{D:Nat}{A B:Mx}(hA:A.length=D)(hB:B.length=D)(h:∀i,i<D→A.getD i []=B.getD i []):A=B:=by
 apply Kl
 grind
theorem zMm{p:Int}{D:Nat}{A B C:Mx}(hA:A.length=D)(hB:B.length=D):PM p D (PM p D A B) C=PM p D A (PM p D B C):=by
 refine zHW (by rw[uL,uL,hA]) (by rw[uL,hA]) fun i hi=>?_
 rw[zCx (A:=PM p D A B) (by rw[uL];omega),zCx (A:=A) (B:=PM p D B C) (by omega)];unfold xJ;refine yA fun j hj=>?_
 have e1:S D (fun l=>at0 ((PM p D A B).getD i []) l*ent C l j)%p=S D (fun l=>S D (fun q=>ent A i q*ent B q l)*ent C l j)%p:=zAA fun l hl=>by
  have:=zNP (p:=p) (B:=B) hA hi hl;simp only[ent]at this ⊢
  rw[this,Jv,Jz,←Jv]
 have e2:S D (fun l=>at0 (A.getD i []) l*ent (PM p D B C) l j)%p=S D (fun q=>ent A i q*S D (fun l=>ent B q l*ent C l j))%p:=zAA fun q hq=>by rw[zNP hB hq hj,Jv,Jz,←Jv]
 rw[e1,e2]
 congr 1
 have e3:(fun l=>S D (fun q=>ent A i q*ent B q l)*ent C l j)=fun l=>S D (fun q=>ent A i q*ent B q l*ent C l j):=funext fun l=>(zMl _ _).symm
 have e4:(fun q=>ent A i q*S D (fun l=>ent B q l*ent C l j))=fun q=>S D (fun l=>ent A i q*ent B q l*ent C l j):=funext fun q=>by rw[←zDq];exact xL fun l _=>by rw[Hh]
 rw[e3,e4];exact zHV D D
theorem sV(D:Nat):(idM D).length=D:=by simp[idM]
theorem zDH{D i:Nat}(h:i<D):(idM D).getD i []=mkv D fun j=>if j=i then 1 else 0:=by simp[idM,J3,h]
theorem sG{p:Int}{D:Nat}(hp:2≤p):Mat p D (idM D):=by
 refine⟨sV D,fun i hi=>?_⟩;rw[zDH hi];refine⟨zU _ _,fun j hj=>?_⟩
 grind[yC]
theorem qC{p a:Int}(h:0≤a∧a≤p-1):a%p=a:=K1 h.1 (by omega)
theorem zCy{p:Int}{D:Nat}{B:Mx}(hB:Mat p D B):PM p D (idM D) B=B:=by
 refine zHW (by rw[uL,sV]) hB.1 fun i hi=>?_
 rw[zCx (by grind[sV]),zDH hi,xJ];obtain⟨h1,h2⟩:=hB.2 i hi;refine Eq.trans (yA fun j hj=>?_) (vC h1).symm;rw[zAR (k:=i) hi fun l hl gg=>by rw[yC hl,if_neg gg,Qt],yC hi,if_pos rfl,Ja3]
 grind[qC]
theorem zDs{p:Int}{D:Nat}{A:Mx}(hA:Mat p D A):PM p D A (idM D)=A:=by
 refine zHW (by rw[uL,hA.1]) hA.1 fun i hi=>?_
 rw[zCx (by rw[hA.1];exact hi),xJ];obtain⟨h1,h2⟩:=hA.2 i hi;refine Eq.trans (yA fun j hj=>?_) (vC h1).symm;rw[zAR (k:=j) hj fun l hl gg=>by rw[ent,zDH hl,yC hj,if_neg (fun h=>gg h.symm),Lt],ent,zDH hj,yC hj,if_pos rfl,Ln]
 grind[qC]
theorem zSV{p:Int}{D i j:Nat}{B:Mx}(hB:Mat p D B)(hi:i<D)(hj:j<D):ixO B (i:Int)=dJ (B.getD i [])∧ixO (B.getD i []) (j:Int)=dJ (ent B i j)∧(B.getD i []).length=D∧0≤ent B i j∧ent B i j≤p-1:=by
 obtain⟨h1,h2⟩:=hB.2 i hi
 grind[zT]
def acc(p:Int)(D i:Nat)(r:List Int)(B:Mx):List Int:=mkv D fun j=>S i (fun l=>at0 r l*ent B l j)%p
def zDW(p:Int)(D i k:Nat)(r:List Int)(B:Mx):List Int:=mkv D fun j=>if j<k then S (i+1) (fun l=>at0 r l*ent B l j)%p else S i (fun l=>at0 r l*ent B l j)%p
theorem zJ5{p:Int}{D i:Nat}{r:List Int}{B:Mx}:zDW p D i 0 r B=acc p D i r B:=rfl
theorem zJ6{p:Int}{D i:Nat}{r:List Int}{B:Mx}:zDW p D i D r B=acc p D (i+1) r B:=yA (by omega)
theorem zMn{p:Int}{D i k:Nat}{r:List Int}{B:Mx}(hk:k<D){a:Int}(ha:a=(at0 (zDW p D i k r B) k+at0 r i*ent B i k)%p):(zDW p D i k r B).set k a=zDW p D i (k+1) r B:=by
 subst ha;simp only[zDW];rw[qX,yC hk,if_neg (by omega)];refine yA fun j hj=>?_
 by_cases hjk:j=k
 ·subst hjk
  rw[if_pos rfl,if_pos (by omega)]
  grind[S,Int.emod_add_emod]
 omega
theorem zMo{p:Int}{D i k j:Nat}{r:List Int}{B:Mx}(hp:0<p)(hj:j<D):0≤at0 (zDW p D i k r B) j∧at0 (zDW p D i k r B) j≤p-1:=by
 rw[zDW,yC hj];split
 ·have h1:=Kv (S (i+1) fun l=>at0 r l*ent B l j) (show p≠0 by omega)
  have h2:=Ki (S (i+1) fun l=>at0 r l*ent B l j) hp;omega
 ·have h1:=Kv (S i fun l=>at0 r l*ent B l j) (show p≠0 by omega)
  have h2:=Ki (S i fun l=>at0 r l*ent B l j) hp;omega
theorem zHX{p:Int}{D i k:Nat}{r:List Int}{B:Mx}:(zDW p D i k r B).length=D:=zU _ _
theorem zP7{p:Int}{D i k j:Nat}{r:List Int}{B:Mx}(hj:j<D):ixO (zDW p D i k r B) (j:Int)=dJ (at0 (zDW p D i k r B) j):=by grind[yF,zHX]
theorem zMp{p:Int}{D:Nat}{r:List Int}{B:Mx}:J1 D (0:Int)=acc p D 0 r B:=by rw[vX];rfl
theorem zJ7{a b p:Int}(hp:p≤7)(ha:0≤a∧a≤p-1)(hb:0≤b∧b≤p-1):0≤a*b∧a*b≤36:=by have h1:0≤a*b:=Hq ha.1 hb.1;have h2:a*b≤6*6:=Lg (by omega) (by omega) hb.1 (by omega);omega
section
variable {p:Int}{D:Nat} (hp:Prime p) (hD:D≤8)
 include hp hD
theorem zCz{r:List Int}{B:Mx}(hr:Row p D r)(hB:Mat p D B):f_L p r B (D:Int)=dJ (xJ p D r B):=by
 have h7:=hp.pos;have hBl:=hB.1;have mQ:=hr.1;unfold f_L;rw[yK (by omega),bs,zMp (p:=p) (r:=r) (B:=B)];have:=zM (body:=zOt p r B) (r:=acc p D D r B) (fun i=>(acc p D i r B,(i:Int))) D (fun i hi=>by
  have aE:=hr.2 i hi;unfold zOt;simp only
  rw[mQ,hBl,yI hi,zK,zK];have inner:=zM (body:=zRj p r B (acc p D i r B,(i:Int))) (r:=acc p D (i+1) r B) (fun k=>(zDW p D i k r B,(k:Int))) D (fun k hk=>by
   obtain⟨b1,b2,b3,b4⟩:=zSV hB hi hk;have ha:=zMo (p:=p) (i:=i) (k:=k) (r:=r) (B:=B) (by omega) hk;have hm:=zJ7 (by omega) aE b4;unfold zRj;simp only
   rw[zHX,yI hk,zK,b1,bs,b3,yI hk,zK,zP7 hk,bs,yF (by omega),bs,bs,b2,bs,zF (by omega) (by omega),bs,zF (by omega) (by omega),bs];have aG:xR (at0 (zDW p D i k r B) k+at0 r i*ent B i k) p=dJ ((at0 (zDW p D i k r B) k+at0 r i*ent B i k)%p):=by
    unfold xR
    grind
   rw[aG,bs,bs,zF (by omega) (by omega),bs,cs,J8,zMn hk rfl]) (by
   unfold zRj;simp only
   rw[zHX,vR,zL,zJ6])
  rw[zJ5,show((0:Nat):Int)=0 from rfl]at inner
  grind[zF]) (by
  unfold zOt
  grind)
 rw[show((0:Nat):Int)=0 from rfl]at this;rw[this,bs];rfl
theorem zK4{a:Int}(h0:0≤a)(_h1:a≤1000):zLg a p=dJ (a%p):=by have _:=hD;have h7:=hp.pos;have e1:=Kv a (show p≠0 by omega);have e2:=Ki a (show 0<p by omega);unfold zLg xR;rw[if_neg (by omega),bs,Lf h0,zF (by omega) (by omega),bs,if_neg (by omega),bs,Lf (by omega)];simp
theorem zFV{i:Nat}{r:List Int}{B:Mx}(hi:i<D)(hr:Row p D r)(hB:Mat p D B):f_Q (acc p D i r B) (B.getD i []) (at0 r i) p=dJ (acc p D (i+1) r B):=by
 have h7:=hp.pos;have aE:=hr.2 i hi;unfold f_Q;have hl:(acc p D i r B).length=D:=zU _ _;have inner:=zM (body:=zNa (acc p D i r B) (B.getD i []) (at0 r i) p) (r:=acc p D (i+1) r B) (fun k=>(zDW p D i k r B,(k:Int))) D (fun k hk=>by
  obtain⟨b1,b2,b3,b4⟩:=zSV hB hi hk;have ha:=zMo (p:=p) (i:=i) (k:=k) (r:=r) (B:=B) (by omega) hk;have hm:=zJ7 (by omega) aE b4;unfold zNa;simp only
  rw[hl,yI hk,zK,zP7 hk,bs,b2,bs,zF (by omega) (by omega),bs,zF (by omega) (by omega),bs,zK4 hp hD (by omega) (by omega),bs,bs,zF (by omega) (by omega),bs,cs,J8,zMn hk rfl]) (by
  unfold zNa;simp only
  rw[hl,vR,zL,zJ6])
 rw[zJ5,show((0:Nat):Int)=0 from rfl]at inner
 grind
theorem zFW{r:List Int}{B:Mx}{q:Int}(hr:Row p D r)(hB:Mat p D B)(hq:q=(D:Int)):zXo r (zS.mk p q B)=dJ (xJ p D r B):=by
 subst hq;have mQ:=hr.1;unfold zXo;simp only
 rw[yK (by omega),bs,zMp (p:=p) (r:=r) (B:=B)];have:=zM (body:=zNb r (zS.mk p (D:Int) B)) (r:=acc p D D r B) (fun i=>(acc p D i r B,(i:Int))) D (fun i hi=>by
  have hBl:=hB.1;unfold zNb;simp only
  rw[mQ,yI hi,zK,yF (by omega),bs,zT [] (by omega),bs,zFV hp hD hi hr hB,bs,zF (by omega) (by omega),bs,cs]) (by
  unfold zNb
  grind)
 rw[show((0:Nat):Int)=0 from rfl]at this;rw[this,bs];rfl
theorem zJ8{A B:Mx}{i:Nat}(hi:i<A.length):(PM p D A B).take i++[xJ p D (A.getD i []) B]=(PM p D A B).take (i+1):=by
 have _:=hp;have _:=hD;rw[Kc (by grind[uL])]
 congr 2
 have:=zCx (p:=p) (D:=D) (B:=B) hi
 grind
theorem zAz{A B:Mx}(hA:Mat p D A)(hB:Mat p D B):f_V p A B (D:Int)=dJ (PM p D A B):=by
 have cY:=hA.1;unfold f_V;have:=zM (body:=zOu p A B (D:Int)) (r:=PM p D A B) (fun i=>((PM p D A B).take i,(i:Int))) D (fun i hi=>by
  unfold zOu;simp only
  rw[cY,yI hi,zK,zT [] (by omega),bs,zCz hp hD (hA.2 i hi) hB,bs,zP (by rw[L4,uL];simp;omega),bs,zF (by omega) (by omega),bs,cs,zJ8 hp hD (by omega)]) (by
  unfold zOu;simp only
  rw[cY,vR,zL,Jr (by grind[uL])])
 grind
theorem zIM{A B:Mx}{q:Int}(hA:Mat p D A)(hB:Mat p D B):zXp (zS.mk p q A) (zS.mk p (D:Int) B)=dJ (zS.mk p (D:Int) (PM p D A B)):=by
 have cY:=hA.1;unfold zXp;have:=zM (body:=zNc (zS.mk p q A) (zS.mk p (D:Int) B)) (r:=PM p D A B) (fun i=>((PM p D A B).take i,(i:Int))) D (fun i hi=>by
  unfold zNc;simp only
  rw[cY,yI hi,zK,zT [] (by omega),bs,zFW hp hD (hA.2 i hi) hB rfl,bs,zP (by rw[L4,uL];simp;omega),bs,zF (by omega) (by omega),bs,cs,zJ8 hp hD (by omega)]) (by
  unfold zNc;simp only
  rw[cY,vR,zL,Jr (by grind[uL])])
 grind
theorem zMq{i:Nat}(_hi:i<D):(J1 D (0:Int)).set i 1=mkv D fun j=>if j=i then 1 else 0:=by have _:=hp;have _:=hD;rw[vX,qX]
theorem zP8{i:Nat}(hi:i<D):(idM D).take i++[mkv D fun j=>if j=i then 1 else 0]=(idM D).take (i+1):=by
 have _:=hp;have _:=hD;rw[Kc (by grind[sV])]
 congr 2
 have:=zDH hi
 grind
theorem zHY:f_D (D:Int)=dJ (idM D):=by
 unfold f_D;have:=zM (body:=zIB (D:Int)) (r:=idM D) (fun i=>((idM D).take i,(i:Int))) D (fun i hi=>by
  unfold zIB;simp only
  rw[yI hi,zK,yK (by omega),bs,uZ,Kg,if_pos hi,bs,J8,zMq hp hD hi,zP (by grind),bs,zF (by omega) (by omega),bs,cs,zP8 hp hD hi]) (by
  unfold zIB;simp only
  rw[vR,zL,Jr (by grind[sV])])
 grind
theorem zEk:zUF p (D:Int)=dJ (zS.mk p (D:Int) (idM D)):=by
 unfold zUF;have:=zM (body:=zJR (D:Int)) (r:=idM D) (fun i=>((idM D).take i,(i:Int))) D (fun i hi=>by
  unfold zJR;simp only
  rw[yI hi,zK,yK (by omega),bs,uZ,Kg,if_pos hi,bs,J8,zMq hp hD hi,zP (by grind),bs,zF (by omega) (by omega),bs,cs,zP8 hp hD hi]) (by
  unfold zJR;simp only
  rw[vR,zL,Jr (by grind[sV])])
 grind
end
end Go.Pl

namespace Go.Pl
open Go Go.Ab Go.Wk Go.Pc
def nw:Nat→List Int→List Nat
 |_,[]=>[]
 |o,a::v=>J1 a.toNat o++nw (o+1) v
theorem zDI:∀(o:Nat)(u v:List Int),nw o (u++v)=nw o u++nw (o+u.length) v
 |o,[],v=>by simp[nw]
 |o,a::u,v=>by
  simp only[Kd,nw,zDI (o+1) u v,Jg,Jc]
  grind
theorem zK5{v:List Int}{i:Nat}(h:i<v.length):nw 0 (v.take (i+1))=nw 0 (v.take i)++J1 (at0 v i).toNat i:=by
 rw[Kc h,zDI,L4,Uk (by omega),Jd];simp only[nw,Jb]
 grind
theorem zMr{n:Nat}:∀(o:Nat)(v:List Int),o+v.length≤n→ ∀w∈nw o v,w<n
 |o,[],_,w,h=>by grind[nw]
 |o,a::v,hv,w,h=>by
  simp only[nw,Jf,Jc]at h hv;rcases h with h|h
  ·grind
  ·exact zMr (o+1) v (by omega) w h
theorem zFX:∀(o:Nat)(v:List Int),(∀i,i<v.length→at0 v i≤6)→(nw o v).length≤6*v.length
 |o,[],_=>by simp[nw]
 |o,a::v,h=>by
  have h0:=h 0 (by simp);have:=zFX (o+1) v fun i hi=>by
   have:=h (i+1) (by grind)
   grind
  simp only[at0,H6]at h0
  grind[nw]
def wM(p:Int)(D:Nat)(A:List Mx)(ws:List Nat)(B:Mx):Mx:=ws.foldl (fun B w=>PM p D B (A.getD w [])) B
theorem zDJ{p:Int}{D:Nat}{A:List Mx}{u v:List Nat}{B:Mx}:wM p D A (u++v) B=wM p D A v (wM p D A u B):=by simp[wM,G5]
theorem zHZ{p:Int}{D:Nat}{A:List Mx}{w:Nat}:∀(k:Nat)(B:Mx),wM p D A (J1 k w) B=iter k (fun B=>PM p D B (A.getD w [])) B
 |0,_=>rfl
 |k+1,B=>by rw[Ju];show wM p D A (J1 k w) (PM p D B (A.getD w []))=_;rw[zHZ k];rfl
theorem zC0{p:Int}{D:Nat}{A:List Mx}(hp:0<p):∀(ws:List Nat){B:Mx},Mat p D B→Mat p D (wM p D A ws B)
 | [],_,hB=>hB
 |_w::ws,_,hB=>zC0 hp ws (zDr hp hB.1)
theorem zIa{p:Int}{D:Nat}{A:List Mx}(hp:0<p){C:Mx}(hC:C.length=D):∀(ws:List Nat){B:Mx},Mat p D B→wM p D A ws (PM p D C B)=PM p D C (wM p D A ws B)
 | [],_,_=>rfl
 |w::ws,B,hB=>by show wM p D A ws (PM p D (PM p D C B) (A.getD w []))=PM p D C (wM p D A ws (PM p D B (A.getD w [])));rw[zMm hC hB.1,zIa hp hC ws (zDr hp hB.1)]
structure MOk (n:Nat) (m:zC) (D:Nat):Prop where
 p:Prime m.Prime
 d:m.Dim=(D:Int)
 d1:1≤D
 d3:D≤3
 len:m.zG.length=n
 mat:∀i,i<n→Mat m.Prime D (m.zG.getD i [])
structure yAj (n:Nat) (m:zC) (D:Nat):Prop where
 p:Prime m.Prime
 d:m.Dim=(D:Int)
 d3:D≤30
 len:m.zG.length=n
 mat:∀i,i<n→Mat m.Prime D (m.zG.getD i [])
theorem MOk.x{n D:Nat}{m:zC}(h:MOk n m D):yAj n m D:=⟨h.p,h.d,by have:=h.d3;omega,h.len,h.mat⟩
structure zSW (n:Nat) (m:zC) (D:Nat):Prop where
 p:Prime m.Prime
 d3:D≤200
 len:m.zG.length=n
 mat:∀i,i<n→Mat m.Prime D (m.zG.getD i [])
theorem MOk.b{n D:Nat}{m:zC}(h:MOk n m D):zSW n m D:=⟨h.p,by have:=h.d3;omega,h.len,h.mat⟩
section
variable {n D:Nat}{m:zC} (hm:MOk n m D) (hn:n≤14)
 include hm hn
theorem zMs{v:List Int}(hl:v.length=n)(hv:∀i,i<n→0≤at0 v i∧at0 v i≤6):zUl m v=dJ (wM m.Prime D m.zG (nw 0 v) (idM D)):=by
 have h7:=hm.p.pos;have h3:=hm.d3;have gf:=hm.len;unfold zUl;rw[hm.d,zHY hm.p (by omega),bs];have hI:∀i,Mat m.Prime D (wM m.Prime D m.zG (nw 0 (v.take i)) (idM D)):=by grind[zC0,sG]
 have:=zM (body:=zMV m v) (r:=wM m.Prime D m.zG (nw 0 v) (idM D)) (fun i=>(wM m.Prime D m.zG (nw 0 (v.take i)) (idM D),(i:Int))) n (fun i hi=>by
  have hvi:=hv i hi;unfold zMV;simp only
  rw[hl,yI hi,zK];rw[vN (S:=Mat m.Prime D) (body:=zMU m v (wM m.Prime D m.zG (nw 0 (v.take i)) (idM D),(i:Int))) (fun B=>B) (fun B=>PM m.Prime D B (m.zG.getD i [])) (at0 v i) hvi.1 (fun B hB=>zDr (by omega) hB.1) (fun B q hB hq=>by
   unfold zMU;simp only
   rw[yF (by omega),bs,dP hq,zK,zT [] (by omega),bs,hm.d,zAz hm.p (by omega) hB (hm.mat i hi),bs,zF (by omega) (by omega),bs,cs]) (fun B hB=>by
   unfold zMU;simp only
   rw[yF (by omega),bs,dO (by omega),zL]) (hI i),bs,zF (by omega) (by omega),bs,cs]
  grind[zK5,zDJ,zHZ]) (by
  unfold zMV
  grind)
 rw[show((0:Nat):Int)=0 from rfl,Km]at this
 grind[nw,wM]
abbrev enW(ws:List Nat):List Int:=ws.map fun(w:Nat)=>(w:Int)+1
theorem zIN{i:Nat}(hi:i<n):zRo m (i:Int)=dJ (zS.mk m.Prime (D:Int) (m.zG.getD i [])):=by have _:=hn;have gf:=hm.len;unfold zRo;rw[zT [] (by omega),bs,hm.d]
theorem zBH{ws:List Nat}(hw:∀w∈ws,w<n)(hl:ws.length≤1000000):zLh m (enW ws)=dJ (zS.mk m.Prime (D:Int) (wM m.Prime D m.zG ws (idM D))):=by
 have h7:=hm.p.pos;have h3:=hm.d3;unfold zLh;rw[hm.d,zEk hm.p (by omega),bs];have hI:∀i,Mat m.Prime D (wM m.Prime D m.zG (ws.take i) (idM D)):=by grind[zC0,sG]
 have p9:(enW ws).length=ws.length:=by simp
 have:=zM (body:=zNd m (enW ws)) (r:=(m.Prime,(D:Int),wM m.Prime D m.zG ws (idM D))) (fun i=>(m.Prime,(D:Int),wM m.Prime D m.zG (ws.take i) (idM D),(i:Int))) ws.length (fun i hi=>by
  have hwi:=hw ws[i] (Ke hi);unfold zNd;simp only
  rw[p9,yI hi,zK,uZ,K4,J7 hi];simp only[Gk];rw[bs,zF (by omega) (by omega),bs,show((ws[i]:Nat):Int)+1-1=((ws[i]:Nat):Int)from by omega,zIN hm hn hwi,bs,zIM hm.p (by omega) (hI i) (hm.mat _ hwi),bs,zF (by omega) (by omega),bs,cs,Kc hi,zDJ];rfl) (by
  unfold zNd;simp)
 rw[show((0:Nat):Int)=0 from rfl,Km]at this
 grind[wM]
end
theorem zAH{v:List Int}(hl:v.length≤14)(hv:∀i,i<v.length→0≤at0 v i∧at0 v i≤6):f_O v=dJ (enW (nw 0 v)):=by
 unfold f_O;have gf:∀i,(nw 0 (v.take i)).length≤84:=fun i=>by
  have:=zFX 0 (v.take i) (by grind)
  grind
 have:=zM (body:=zUB v) (r:=enW (nw 0 v)) (fun i=>(enW (nw 0 (v.take i)),(i:Int))) v.length (fun i hi=>by
  have hvi:=hv i hi;have hli:=gf i;unfold zUB;simp only
  rw[yI hi,zK,yF hi,bs];have inner:=zM (body:=zUA (enW (nw 0 (v.take i)),(i:Int)) (at0 v i)) (r:=enW (nw 0 (v.take (i+1)))) (fun k=>(enW (nw 0 (v.take i)++J1 k i),(k:Int))) (at0 v i).toNat (fun k hk=>by
   unfold zUA;simp only
   rw[dP (by omega),zK,zF (by omega) (by omega),bs,zP (by grind),bs,zF (by omega) (by omega),bs,cs]
   congr 3
   rw[Kw,←Jg];simp) (by
   unfold zUA;simp only
   rw[dO (by omega),zL,zK5 hi])
  rw[show((0:Nat):Int)=0 from rfl,Lw,Jb]at inner
  grind[zF]) (by
  unfold zUB;simp)
 rw[show((0:Nat):Int)=0 from rfl,Km]at this;simp only[nw,enW,Gp]at this
 grind
theorem zMt{v o:Int}(h:zU9 1 (IntKind.wrap .u64 o)=dJ (0,o)):zU9 (IntKind.wrap .u64 (([v]:List Int).length:Int)) (IntKind.wrap .u64 o)=dJ (0,o):=by rw[show IntKind.wrap .u64 (([v]:List Int).length:Int)=1 from by rfl];exact h
theorem zDt{v o:Int}(ho:Prime o):f_q [v] o=dJ (J1 o.toNat v):=by
 unfold f_q;rcases ho with rfl|rfl|rfl|rfl
 ·have h:=zM (body:=zCD) (r:=[v,v]) (fun i=>match i with|0=>([v,0],1)|_=>([v,v],2)) 1 (fun i hi=>by
   match i,hi with
   |0,_=>rfl) (by rfl)
  rw[zMt (by rfl),bs];have hl:yG (IntKind.wrap .i64 2)=dJ 2:=by rfl
  simp only[hl,bs];rw[show decide ((2:Int)<0)=dM from rfl,zL,show decide ((0:Int)> 0)=dM from rfl,zL,show decide ((2:Int)> 9223372036854775807)=dM from by decide,zL]
  grind[wC]
 ·have h:=zM (body:=zCD) (r:=[v,v,v]) (fun i=>match i with|0=>([v,0,0],1)|1=>([v,v,0],2)|_=>([v,v,v],3)) 2 (fun i hi=>by
   match i,hi with
   |0,_=>rfl
   |1,_=>rfl) (by rfl)
  rw[zMt (by rfl),bs];have hl:yG (IntKind.wrap .i64 3)=dJ 3:=by rfl
  simp only[hl,bs];rw[show decide ((3:Int)<0)=dM from rfl,zL,show decide ((0:Int)> 0)=dM from rfl,zL,show decide ((3:Int)> 9223372036854775807)=dM from by decide,zL]
  grind[wC]
 ·have h:=zM (body:=zCD) (r:=[v,v,v,v,v]) (fun i=>match i with|0=>([v,0,0,0,0],1)|1=>([v,v,0,0,0],2)|2=>([v,v,v,v,0],4)|_=>([v,v,v,v,v],5)) 3 (fun i hi=>by
   match i,hi with
   |0,_=>rfl
   |1,_=>simp[zCD,zQ,wC,rng,inR]
   |2,_=>rfl) (by rfl)
  rw[zMt (by rfl),bs];have hl:yG (IntKind.wrap .i64 5)=dJ 5:=by rfl
  simp only[hl,bs];rw[show decide ((5:Int)<0)=dM from rfl,zL,show decide ((0:Int)> 0)=dM from rfl,zL,show decide ((5:Int)> 9223372036854775807)=dM from by decide,zL];have e2:wC (J1 5 (0:Int)) 0 (([v]:List Int).take ((J1 5 (0:Int)).length-0))=[v,0,0,0,0]:=by rfl
  grind
 ·have h:=zM (body:=zCD) (r:=[v,v,v,v,v,v,v]) (fun i=>match i with|0=>([v,0,0,0,0,0,0],1)|1=>([v,v,0,0,0,0,0],2)|2=>([v,v,v,v,0,0,0],4)|_=>([v,v,v,v,v,v,v],7)) 3 (fun i hi=>by
   match i,hi with
   |0,_=>rfl
   |1,_=>simp[zCD,zQ,wC,rng,inR]
   |2,_=>rfl) (by rfl)
  rw[zMt (by rfl),bs];have hl:yG (IntKind.wrap .i64 7)=dJ 7:=by rfl
  simp only[hl,bs];rw[show decide ((7:Int)<0)=dM from rfl,zL,show decide ((0:Int)> 0)=dM from rfl,zL,show decide ((7:Int)> 9223372036854775807)=dM from by decide,zL];have e2:wC (J1 7 (0:Int)) 0 (([v]:List Int).take ((J1 7 (0:Int)).length-0))=[v,0,0,0,0,0,0]:=by rfl
  simp_all
end Go.Pl

namespace Go.Pl
open Go Go.Ab Go.Wk Go.Pc
theorem IsB.b{o:Option Bool}{P:Prop}(h:IsB o P):IsB (o.bind fun r=>dJ r) P:=by grind
theorem zG2{p:Int}{D:Nat}{r:List Int}(hp:Prime p)(hD:D≤8):IsB (zU8 r p (D:Int)) (Row p D r):=by
 have h7:=hp.pos;unfold zU8
 by_cases h:r.length=D
 ·rw[zAQ (by omega),zL]
  refine(qI r.length (fun i=>0≤at0 r i∧at0 r i≤p-1) rfl (fun i hi _=>?_) ?_).iff ⟨fun g=>⟨h,by grind⟩,fun g=>by rw[h];exact g.2⟩
  ·refine uP (sT _ _ _) (by omega) ?_
   unfold zQl;rw[yI hi,zK,yF hi,bs,zF (by omega) (by omega),bs]
  ·unfold zQl
   simp
 ·rw[zA7 (by omega),zK]
  exact .inr ⟨rfl,fun g=>h g.1⟩
theorem zDu{p:Int}{D:Nat}{r:List Int}(hp:Prime p)(hD:D≤8):IsB (zRi p (D:Int) r) (Row p D r):=by
 have h7:=hp.pos;unfold zRi
 by_cases h:r.length=D
 ·rw[zAQ (by omega),zL]
  refine(qI r.length (fun i=>0≤at0 r i∧at0 r i≤p-1) rfl (fun i hi _=>?_) ?_).iff ⟨fun g=>⟨h,by grind⟩,fun g=>by rw[h];exact g.2⟩
  ·refine uP (zB6 _ _ _) (by omega) ?_
   unfold zQi;rw[yI hi,zK,yF hi,bs,zF (by omega) (by omega),bs]
  ·unfold zQi
   simp
 ·rw[zA7 (by omega),zK]
  exact .inr ⟨rfl,fun g=>h g.1⟩
theorem zQE{p:Int}{D:Nat}{B:Mx}(hp:Prime p)(hD:D≤8):IsB (zXj p (D:Int) B) (Mat p D B):=by
 unfold zXj
 by_cases h:B.length=D
 ·rw[zAQ (by omega),zL]
  refine(qI B.length (fun i=>Row p D (B.getD i [])) rfl (fun i hi _=>?_) ?_).iff ⟨fun g=>⟨h,by grind⟩,fun g=>by rw[h];exact g.2⟩
  ·refine uP (zDu hp hD) (by omega) ?_
   unfold zQj;rw[yI hi,zK,zT [] hi,bs]
  ·unfold zQj
   simp
 ·rw[zA7 (by omega),zK]
  exact .inr ⟨rfl,fun g=>h g.1⟩
theorem zIO{p:Int}{D:Nat}{B:Mx}(hp:Prime p)(hD:D≤8)(hB:B.length=D):IsB (zXn (zS.mk p (D:Int) B)) (Mat p D B):=by
 unfold zXn;simp only
 rcases zCu p with⟨h1,_⟩|⟨_,h2⟩
 ·rw[h1,bs,Ja,zL]
  rcases sT (D:Int) 0 8 with⟨h3,_⟩|⟨_,h4⟩
  ·rw[h3,bs,Ja,zL,dO (by omega),zL]
   refine(qI (body:=zMZ (zS.mk p (D:Int) B)) D (fun i=>Row p D (B.getD i [])) rfl (fun i hi _=>?_) ?_).iff ⟨fun g=>⟨hB,g⟩,fun g=>g.2⟩
   ·refine uP (zG2 hp hD) (by omega) ?_
    unfold zMZ;simp only
    rw[hB,yI hi,zK,zT [] (by omega),bs]
   ·unfold zMZ
    grind
  omega
 grind
theorem zIb{A B:Mx}(hA:A.length≤1000)(h:∀r∈A,r.length≤1000):zXk A B=dJ (A==B):=
 zMc (t:=f_Z) (body:=zUm A B) rfl (fun _=>rfl) (by omega) (by grind[zFT])
theorem zIP{A B:Mx}(hA:A.length≤1000)(h:∀r∈A,r.length≤1000):zXq A B=dJ (A==B):=by unfold zXq;rw[zMc (f:=yAO A B) (t:=zIV) (body:=zUG A B) rfl (fun _=>rfl) (by omega) (by grind[zCw]),bs]
theorem Mat.small{p:Int}{D:Nat}{A:Mx}(h:Mat p D A)(hD:D≤8):A.length≤1000∧ ∀r∈A,r.length≤1000:=by
 refine⟨by have:=h.1;omega,fun r hr=>?_⟩;obtain⟨i,hi,rfl⟩:=K6.1 hr;have:=h.2 i (by rw[←h.1];exact hi);rw[J3,J7 hi]at this;have:=this.1
 grind
def zCe(x:SPr)(m:zC)(D:Nat):Prop:=
 ∀i,i<x.zA.length→wM m.Prime D m.zG (J1 (at0 x.zA i).toNat i) (idM D)=wM m.Prime D m.zG (nw 0 (x.zJ.getD i [])) (idM D)∧
  ∀j,i+1≤j→j<x.zA.length→PM m.Prime D (m.zG.getD j []) (m.zG.getD i [])=PM m.Prime D (m.zG.getD i []) (wM m.Prime D m.zG (nw 0 ((x.zB.getD i []).getD (j-(i+1)) [])) (idM D))
theorem kF{x:SPr}{v:List Int}{i:Nat}(ho:Os x.zA)(h:Exp x.zA v i):v.length=x.zA.length∧ ∀j,j<x.zA.length→0≤at0 v j∧at0 v j≤6:=by have h1:=h.1.1;refine⟨h1,fun j hj=>?_⟩;have:=h.1.2 j (by omega);have:=(ho.2 j hj).pos;omega
section
variable {x:SPr}{m:zC}{D:Nat} (h:Pres x) (hm:MOk x.zA.length m D)
 include h hm
theorem zQF{i:Nat}(hi:i<x.zA.length):(x.zJ.getD i []).length=x.zA.length∧ ∀j,j<x.zA.length→0≤at0 (x.zJ.getD i []) j∧at0 (x.zJ.getD i []) j≤6:=have _:=hm;kF h.os (h.tl i hi).1
theorem zNQ{i j:Nat}(hi:i<x.zA.length)(hj:j<(x.zB.getD i []).length):((x.zB.getD i []).getD j []).length=x.zA.length∧ ∀q,q<x.zA.length→0≤at0 ((x.zB.getD i []).getD j []) q∧at0 ((x.zB.getD i []).getD j []) q≤6:=have _:=hm;kF h.os ((h.tl i hi).2.2 j hj)
theorem zQG:IsB ((zH (zUq x m) 0).bind fun r=>match r with|.inl _=>dJ dL|.inr r=>dJ r) (zCe x m D):=by
 have h6:=h.os.1;have h7:=hm.p.pos;have h3:=hm.d3;have gf:=hm.len;refine qI x.zA.length (fun i=>wM m.Prime D m.zG (J1 (at0 x.zA i).toNat i) (idM D)=wM m.Prime D m.zG (nw 0 (x.zJ.getD i [])) (idM D)∧
  ∀j,i+1≤j→j<x.zA.length→PM m.Prime D (m.zG.getD j []) (m.zG.getD i [])=PM m.Prime D (m.zG.getD i []) (wM m.Prime D m.zG (nw 0 ((x.zB.getD i []).getD (j-(i+1)) [])) (idM D))) rfl (fun i hi _=>?_) ?_
 ·have fE:=(h.os.2 i hi).pos
  have fW:=h.pl;have gA:=h.cl;obtain⟨p1,p2⟩:=zQF h hm hi;have t2:=(h.tl i hi).2.1;have hI:=sG (p:=m.Prime) (D:=D) h7.1;unfold zUq;rw[yI hi,zK,hm.d,zHY hm.p (by omega),bs];rw[vN (S:=Mat m.Prime D) (body:=zUo x m (i:Int)) (fun B=>B) (fun B=>PM m.Prime D B (m.zG.getD i [])) (at0 x.zA i) (by omega) (fun B hB=>zDr (by omega) hB.1) (fun B q hB hq=>by
   unfold zUo;simp only
   rw[yF hi,bs,dP hq,zK,zT [] (by omega),bs,hm.d,zAz hm.p (by omega) hB (hm.mat i hi),bs,zF (by omega) (by omega),bs,cs]) (fun B hB=>by
   unfold zUo;simp only
   rw[yF hi,bs,dO (by omega),zL]) hI,bs,zT [] (by omega),bs,zMs hm (by omega) p1 p2,bs,←zHZ]
  have hs:=(zC0 (p:=m.Prime) (D:=D) (A:=m.zG) (by omega) (J1 (at0 x.zA i).toNat i) hI).small (by omega);rw[zIb hs.1 hs.2,bs]
  by_cases hq:wM m.Prime D m.zG (J1 (at0 x.zA i).toNat i) (idM D)=wM m.Prime D m.zG (nw 0 (x.zJ.getD i [])) (idM D)
  ·rw[show(wM m.Prime D m.zG (J1 (at0 x.zA i).toNat i) (idM D)==wM m.Prime D m.zG (nw 0 (x.zJ.getD i [])) (idM D))=dL from by grind,Ja,zL,zF (by omega) (by omega),bs,cs]
   rcases chk (body:=zUp x m (i:Int)) x.zA.length (i+1) (by omega) (fun j=>PM m.Prime D (m.zG.getD j []) (m.zG.getD i [])=PM m.Prime D (m.zG.getD i []) (wM m.Prime D m.zG (nw 0 ((x.zB.getD i []).getD (j-(i+1)) [])) (idM D))) (fun _=>dM) (fun j h1 h2 _=>by
     obtain⟨c1,c2⟩:=zNQ h hm (j:=j-(i+1)) hi (by omega);have hjm:=hm.mat j h2;have him:=hm.mat i hi;have hw:=zC0 (p:=m.Prime) (D:=D) (A:=m.zG) (by omega) (nw 0 ((x.zB.getD i []).getD (j-(i+1)) [])) hI;have hs:=(zDr (p:=m.Prime) (B:=m.zG.getD i []) (by omega) hjm.1).small (by omega);refine uP (o:=dJ (PM m.Prime D (m.zG.getD j []) (m.zG.getD i [])==PM m.Prime D (m.zG.getD i []) (wM m.Prime D m.zG (nw 0 ((x.zB.getD i []).getD (j-(i+1)) [])) (idM D)))) (IsB.of_bool (by simp)) (by omega) ?_;unfold zUp;rw[yI h2,zK,zT (i:=j) [] (by omega),bs,zT (i:=i) [] (by omega),bs,hm.d,zAz hm.p (by omega) hjm him,bs,bs,zT (i:=i) [] (by omega),bs,zF (by omega) (by omega),bs,zF (by omega) (by omega),bs,show(j:Int)-(i:Int)-1=((j-(i+1):Nat):Int)from by omega,zT [] (by omega),bs,zMs hm (by omega) c1 c2,bs,zAz hm.p (by omega) him hw,bs,zIb hs.1 hs.2]) (by
     unfold zUp;simp)with⟨g1,g2⟩|⟨j,j1,j2,g1,g2⟩
   ·grind
   ·right
    rw[g1,bs]
    grind
  grind
 ·unfold zUq
  simp
end
def zSX(x:SPr)(m:zC):Prop:=zBo x∧ ∃D,MOk x.zA.length m D∧zCe x m D
theorem zIc{x:SPr}{m:zC}(h2:Pres x):IsB (f_A x m) (∃D,MOk x.zA.length m D∧zCe x m D):=by
 have h6:=h2.os.1;unfold f_A;rcases zHM m.Prime with⟨p1,p2⟩|⟨p1,p2⟩
 ·rw[p1,bs,Ja,zL]
  rcases zB6 m.Dim 1 3 with⟨d1,d2⟩|⟨d1,d2⟩
  ·rw[d1,bs,Ja,zL]
   obtain⟨D,hD⟩:∃D:Nat,m.Dim=(D:Int):=⟨m.Dim.toNat,by omega⟩
   by_cases gf:m.zG.length=x.zA.length
   ·rw[zAQ (by omega),zL]
    rcases chk (body:=zUn x m) x.zA.length 0 (Kf _) (fun i=>Mat m.Prime D (m.zG.getD i [])) (fun _=>dM) (fun i _ hi _=>by
      refine uP (zQE p2 (D:=D) (by omega)) (by omega) ?_;unfold zUn;rw[yI hi,zK,zT [] (by omega),bs,hD]) (by
      unfold zUn;simp)with⟨g1,g2⟩|⟨i,_,hi,g1,g2⟩
    ·rw[show((0:Nat):Int)=0 from rfl]at g1
     have hm:MOk x.zA.length m D:=⟨p2,hD,by omega,by omega,gf,by grind⟩;rw[g1,bs];refine IsB.iff (Q:=∃D,MOk x.zA.length m D∧zCe x m D) (zQG h2 hm) ⟨fun k2=>⟨D,hm,k2⟩,fun⟨D',gC,hr⟩=>?_⟩;have:D'=D:=by have:=gC.d;omega
     grind
    ·rw[show((0:Nat):Int)=0 from rfl]at g1
     rw[g1,bs];refine .inr ⟨rfl,fun⟨D',gC,_⟩=>g2 ?_⟩;have:D'=D:=by have:=gC.d;omega
     rw[←this];exact gC.mat i hi
   ·rw[zA7 (by omega),zK]
    exact .inr ⟨rfl,fun⟨D',gC,_⟩=>gf gC.len⟩
  ·rw[d1,bs,Jy,zK]
   exact .inr ⟨rfl,fun⟨D',gC,_⟩=>d2 (by have:=gC.d;have:=gC.d1;have:=gC.d3;omega)⟩
 ·rw[p1,bs,Jy,zK]
  exact .inr ⟨rfl,fun⟨D',gC,_⟩=>p2 gC.p⟩
theorem zBI{x:SPr}{m:zC}(hl:x.zA.length≤1048576):IsB (zMW x m) (zSX x m):=by
 unfold zMW;rcases zHU hl with⟨h1,h2⟩|⟨h1,h2⟩
 ·rw[h1,bs,zK]
  exact IsB.iff (Q:=zSX x m) (IsB.b (zIc h2.1)) ⟨fun g=>⟨h2,g⟩,fun g=>g.2⟩
 ·rw[h1,bs,zL]
  exact .inr ⟨rfl,fun g=>h2 g.1⟩
end Go.Pl

namespace Go.Pl
open Go Go.Ab Go.Wk Go.Pc
abbrev Rl:=List Nat×List Nat
def r1(x:SPr)(i:Nat):Rl:=(J1 (at0 x.zA i).toNat i,nw 0 (x.zJ.getD i []))
def r2(x:SPr)(i j:Nat):Rl:=([i+j+1,i],i::nw 0 ((x.zB.getD i []).getD j []))
def R2(x:SPr)(i:Nat):List Rl:=(Jh (x.zB.getD i []).length).map (r2 x i)
def sH(x:SPr):List Rl:=(Jh x.zA.length).map (r1 x)++(Jh x.zA.length).flatMap (R2 x)
abbrev enR(q:Rl):List Int×List Int:=(enW q.1,enW q.2)
section
variable {x:SPr} (h:Pres x)
 include h
theorem yAk{i:Nat}(hi:i<x.zA.length):(R2 x i).length≤14:=by
 have:=(h.tl i hi).2.1;have:=h.os.1
 grind[R2]
theorem zId:∀i,i≤x.zA.length→((Jh i).flatMap (R2 x)).length≤14*i
 |0,_=>by simp
 |i+1,hi=>by
  have:=zId i (by omega)
  grind[yAk,Lo]
theorem zW7{k i:Nat}:enW (J1 k i)=J1 k ((i:Int)+1):=by have _:=h;simp
theorem zE3:f_M x=dJ ((sH x).map enR):=by
 have h6:=h.os.1;have fW:=h.pl;have gA:=h.cl;unfold f_M;have l1:=zM (body:=zUC x) (r:=((Jh x.zA.length).map (r1 x)).map enR) (fun i=>(((Jh i).map (r1 x)).map enR,(i:Int))) x.zA.length (fun i hi=>by
  obtain⟨p1,p2⟩:=kF h.os (h.tl i hi).1;unfold zUC;simp only
  rw[yI hi,zK,yF hi,bs,zF (by omega) (by omega),bs,zDt (h.os.2 i hi),bs,zT [] (by omega),bs,zAH (by omega) (by rw[p1];exact p2),bs,zP (by simp only[Js,Hi,Jc,K0];omega),bs,bs,cs,Lo];simp only[Ls,Jt,Gp,r1,enR,zW7 h,cs]) (by
  unfold zUC;simp)
 rw[show((0:Nat):Int)=0 from rfl]at l1;simp only[List.range_zero,Gp]at l1;rw[l1,bs];have l3:=zM (body:=zUE x) (r:=(sH x).map enR) (fun i=>(((Jh x.zA.length).map (r1 x)++(Jh i).flatMap (R2 x)).map enR,(i:Int))) x.zA.length (fun i hi=>by
  have t2:=(h.tl i hi).2.1;have ab:=zId h i (by omega);unfold zUE;simp only
  rw[yI hi,zK,zT [] (by omega),bs];have l2:=zM (body:=zUD (((Jh x.zA.length).map (r1 x)++(Jh i).flatMap (R2 x)).map enR,(i:Int)) (x.zB.getD i [])) (r:=((Jh x.zA.length).map (r1 x)++(Jh (i+1)).flatMap (R2 x)).map enR)
   (fun j=>(((Jh x.zA.length).map (r1 x)++(Jh i).flatMap (R2 x)++(Jh j).map (r2 x i)).map enR,(j:Int))) (x.zB.getD i []).length (fun j hj=>by
    obtain⟨p1,p2⟩:=kF h.os ((h.tl i hi).2.2 j hj);have cG:=zFX 0 ((x.zB.getD i []).getD j []) (by grind);unfold zUD;simp only
    rw[yI hj,zK,zT [] hj,bs,zF (by omega) (by omega),bs,zF (by omega) (by omega),bs,zF (by omega) (by omega),bs,zAH (by omega) (by rw[p1];exact p2),bs,zP (by simp only[Js,Jc,K0];omega),bs,zP (by simp only[Js,J5,Hi,Jc,K0];omega),bs,zF (by omega) (by omega),bs,cs,Lo];have e1:(i:Int)+(j:Int)+2=((i+j+1:Nat):Int)+1:=by omega
    simp only[Ls,Jt,Gp,r2,enR,enW,Jg,Hd,e1];rfl) (by
    unfold zUD;simp only
    rw[vR,zL,Lo,Jb1]
    grind[R2])
  rw[show((0:Nat):Int)=0 from rfl]at l2
  grind[zF]) (by
  unfold zUE;simp only
  rw[vR,zL];rfl)
 grind
theorem zQH{q:Rl}(hq:q∈sH x):((∀w∈q.1,w<x.zA.length)∧q.1.length≤1000)∧(∀w∈q.2,w<x.zA.length)∧q.2.length≤1000:=by
 have h6:=h.os.1;simp only[sH,Jf,Ji,Kq,Lr,R2]at hq;rcases hq with⟨i,hi,rfl⟩|⟨i,hi,j,hj,rfl⟩
 ·obtain⟨p1,p2⟩:=kF h.os (h.tl i hi).1
  have cG:=zFX 0 (x.zJ.getD i []) (by rw[p1];exact fun i hi=>(p2 i hi).2);have fE:=(h.os.2 i hi).pos;refine⟨⟨fun w hw=>?_,?_⟩,fun w hw=>zMr 0 _ (by omega) w hw,by simp only[r1];omega⟩
  ·have:=Hc hw;omega
  ·simp only[r1,J6];omega
 ·obtain⟨p1,p2⟩:=kF h.os ((h.tl i hi).2.2 j hj)
  have t2:=(h.tl i hi).2.1;have cG:=zFX 0 ((x.zB.getD i []).getD j []) (by rw[p1];exact fun i hi=>(p2 i hi).2);refine⟨⟨fun w hw=>?_,by simp[r2]⟩,fun w hw=>?_,by simp only[r2,Jc];omega⟩
  ·simp only[r2,J9,Q8,or_false]at hw;omega
  ·simp only[r2,J9]at hw
   rcases hw with rfl|hw
   ·exact hi
   ·exact zMr 0 _ (by omega) w hw
variable {m:zC}{D:Nat} (hm:MOk x.zA.length m D)
 include hm
theorem zMu:(∀q∈sH x,wM m.Prime D m.zG q.1 (idM D)=wM m.Prime D m.zG q.2 (idM D))↔zCe x m D:=by
 have h7:=hm.p.pos;have hI:=sG (p:=m.Prime) (D:=D) h7.1;have key:∀i j,i<x.zA.length→j<x.zA.length→ ∀ws,(wM m.Prime D m.zG [j,i] (idM D)=wM m.Prime D m.zG (i::ws) (idM D)↔PM m.Prime D (m.zG.getD j []) (m.zG.getD i [])=PM m.Prime D (m.zG.getD i []) (wM m.Prime D m.zG ws (idM D))):=fun i j hi hj ws=>by
  have hH:=hm.mat i hi;have mm:=hm.mat j hj;have e1:wM m.Prime D m.zG [j,i] (idM D)=PM m.Prime D (m.zG.getD j []) (m.zG.getD i []):=by show PM _ _ (PM _ _ (idM D) _) _=_;rw[zCy mm]
  have e2:wM m.Prime D m.zG (i::ws) (idM D)=PM m.Prime D (m.zG.getD i []) (wM m.Prime D m.zG ws (idM D)):=by show wM _ _ _ ws (PM _ _ (idM D) _)=_;rw[zCy hH,←zIa (by omega) hH.1 ws hI,zDs hH]
  rw[e1,e2]
 constructor
 ·intro g i hi
  have t2:=(h.tl i hi).2.1;refine⟨g (r1 x i) (by simp only[sH,Jf,Ji,Kq];grind),fun j h1 h2=>?_⟩;have:=g (r2 x i (j-(i+1))) (by
   simp only[sH,Jf,Lr,Kq,R2,Ji]
   grind)
  simp only[r2]at this;rw[show i+(j-(i+1))+1=j from by omega]at this
  grind
 ·intro g q hq
  simp only[sH,Jf,Ji,Kq,Lr,R2]at hq;rcases hq with⟨i,hi,rfl⟩|⟨i,hi,j,hj,rfl⟩
  ·exact(g i hi).1
  ·have t2:=(h.tl i hi).2.1
   have:=(g i hi).2 (i+j+1) (by omega) (by omega);rw[show i+j+1-(i+1)=j from by omega]at this;exact(key i (i+j+1) hi (by omega) _).2 this
theorem zQI:IsB ((zH (zUI m ((sH x).map enR)) 0).bind fun r=>match r with|.inl _=>dJ dL|.inr r=>dJ r) (zCe x m D):=by
 have h6:=h.os.1;have h7:=hm.p.pos;have h3:=hm.d3;have hI:=sG (p:=m.Prime) (D:=D) h7.1;have ab:=zId h x.zA.length (Jk _);have mQ:(sH x).length≤1000:=by simp only[sH,J5,Js,Hi];omega
 refine(qI (sH x).length (fun k=>wM m.Prime D m.zG ((sH x).getD k ([],[])).1 (idM D)=wM m.Prime D m.zG ((sH x).getD k ([],[])).2 (idM D)) rfl (fun k hk _=>?_) ?_).iff ⟨fun g=>(zMu h hm).1 fun q hq=>?_,fun g k hk=>(zMu h hm).2 g _ ?_⟩
 ·have gn:(sH x).getD k ([],[])∈sH x:=by
   rw[J3,J7 hk];exact Ke hk
  obtain⟨⟨g1,g2⟩,g3,g4⟩:=zQH h gn;have hs:=(zC0 (p:=m.Prime) (D:=D) (A:=m.zG) (by omega) ((sH x).getD k ([],[])).1 hI).small (by omega);refine uP (o:=dJ (wM m.Prime D m.zG ((sH x).getD k ([],[])).1 (idM D)==wM m.Prime D m.zG ((sH x).getD k ([],[])).2 (idM D))) (IsB.of_bool (by rw[beq_iff_eq])) (by omega) ?_;unfold zUI;rw[Js,yI hk,zK,uZ,K4,J7 hk];rw[J3,J7 hk]at g1 g2 g3 g4 hs ⊢
  simp only[Gk,Ql]at g1 g2 g3 g4 hs ⊢
  rw[bs,zBH hm h6 g1 (Hl g2 (by omega)),bs,zBH hm h6 g3 (Hl g4 (by omega)),bs];simp only
  rw[zIP hs.1 hs.2]
 ·unfold zUI
  rw[Js,vR,zL]
 ·obtain⟨k,hk,rfl⟩:=K6.1 hq
  have:=g k hk;rw[J3,J7 hk]at this;exact this
 ·rw[J3,J7 hk];exact Ke hk
end
theorem zBJ{x:SPr}{m:zC}(hl:x.zA.length≤1048576)(_hal:m.zG.length≤1048576):IsB (f_P x m) (zSX x m):=by
 unfold f_P;rcases kI hl with⟨h1,h2⟩|⟨h1,h2⟩
 ·have h6:=h2.1.os.1
  rw[h1,bs,Ja,zL];rcases zCu m.Prime with⟨p1,p2⟩|⟨p1,p2⟩
  ·rw[p1,bs,Ja,zL]
   rcases sT m.Dim 1 3 with⟨d1,d2⟩|⟨d1,d2⟩
   ·rw[d1,bs,Ja,zL]
    obtain⟨D,hD⟩:∃D:Nat,m.Dim=(D:Int):=⟨m.Dim.toNat,by omega⟩
    by_cases gf:m.zG.length=x.zA.length
    ·rw[zAQ (by omega),zL]
     rcases chk (body:=zUH m) m.zG.length 0 (Kf _) (fun i=>Mat m.Prime D (m.zG.getD i [])) (fun _=>dM) (fun i _ hi _=>by
       unfold zUH;rw[yI hi,zK,zT [] hi,bs,hD]
       by_cases hr:(m.zG.getD i []).length=D
       ·rw[zAQ (by omega),zL]
        refine uP (zIO p2 (D:=D) (by omega) hr) (by omega) ?_
        grind[zRo,zT]
       ·rw[zA7 (by omega),zK]
        exact .inr ⟨rfl,fun g=>hr g.1⟩) (by
       unfold zUH;simp)with⟨g1,g2⟩|⟨i,_,hi,g1,g2⟩
     ·rw[show((0:Nat):Int)=0 from rfl]at g1
      have hm:MOk x.zA.length m D:=⟨p2,hD,by omega,by omega,gf,by grind⟩;rw[g1,bs,zE3 h2.1];simp only
      rw[bs];refine(zQI h2.1 hm).iff ⟨fun k2=>⟨h2,D,hm,k2⟩,fun⟨_,D',gC,hr⟩=>?_⟩;have:D'=D:=by have:=gC.d;omega
      grind
     ·rw[show((0:Nat):Int)=0 from rfl]at g1
      rw[g1,bs];refine .inr ⟨rfl,fun⟨_,D',gC,_⟩=>g2 ?_⟩;have:D'=D:=by have:=gC.d;omega
      rw[←this];exact gC.mat i (by omega)
    ·rw[zA7 (by omega),zK]
     exact .inr ⟨rfl,fun⟨_,D',gC,_⟩=>gf gC.len⟩
   ·rw[d1,bs,Jy,zK]
    exact .inr ⟨rfl,fun⟨_,D',gC,_⟩=>d2 (by have:=gC.d;have:=gC.d1;have:=gC.d3;omega)⟩
  ·rw[p1,bs,Jy,zK]
   exact .inr ⟨rfl,fun⟨_,D',gC,_⟩=>p2 gC.p⟩
 ·rw[h1,bs,Jy,zK]
  exact .inr ⟨rfl,fun g=>h2 g.1⟩
end Go.Pl

namespace Go.Pl
open Go Go.Ab Go.Wk Go.Pc
theorem zJ9{xs:List (List Int)}{i:Nat}(h:i<xs.length):(xs.take (i+1)).flatten=(xs.take i).flatten++xs.getD i []:=by grind[Kc]
theorem zP9{xs:List (List Int)}(i:Nat):(xs.take i).flatten.length≤xs.flatten.length:=by grind[List.take_append_drop]
theorem zQJ{k:Nat}(hk:k≤1000000):zUJ (k:Int)=dJ []:=by
 unfold zUJ;rw[dO (by omega),zL,zF (by decide) (by decide),bs,zF (by omega) (by omega),bs]
 by_cases h:(k:Int)-(0-0)> 0
 ·rw[dP h,zK]
  have e:wP ([]:List Int) ((k:Int)-(0-0)) 0=dJ (J1 k 0):=by
   unfold wP
   grind
  rw[e,bs];rfl
 grind
theorem zB7{xs:List (List Int)}(hx:xs.length≤1000)(hf:xs.flatten.length≤1000000):f_N xs=dJ xs.flatten:=by
 unfold f_N;have l1:=zM (body:=zUK xs) (r:=((xs.flatten.length:Nat):Int)) (fun i=>((((xs.take i).flatten.length:Nat):Int),(i:Int))) xs.length (fun i hi=>by
  have h1:=zJ9 hi;have h2:=zP9 (xs:=xs) (i+1);have h3:=congrArg Jb0 h1;rw[J5]at h3;unfold zUK;simp only
  rw[yI hi,zK,zT [] hi,bs,zF (by omega) (by omega),bs,dO (by omega),zL,zF (by omega) (by omega),bs,cs,h3]
  congr 3) (by
  unfold zUK;simp)
 rw[show((0:Nat):Int)=0 from rfl]at l1;simp only[Km,Ue,K0]at l1;rw[show((0:Nat):Int)=0 from rfl]at l1;rw[l1,bs,zQJ hf,bs];have l2:=zM (body:=zUL xs) (r:=xs.flatten) (fun i=>((xs.take i).flatten,(i:Int))) xs.length (fun i hi=>by
  have h1:=zJ9 hi;have h2:=zP9 (xs:=xs) (i+1);have h3:=congrArg Jb0 h1;rw[J5]at h3;unfold zUL;simp only
  rw[yI hi,zK,zT [] hi,bs,zP (by omega),bs,zF (by omega) (by omega),bs,cs,h1]) (by
  unfold zUL;simp)
 grind
theorem zMv{r:List Int}{a b:Nat}(hr:r.length≤1000)(ha:a≤1000)(hb:b≤1000):zXr r (a:Int) (b:Int)=dJ (J1 a 0++(r++J1 b 0)):=by grind[zXr,yK,zB7]
end Go.Pl

namespace Go.Pl
open Go Go.Ab Go.Wk Go.Pc
section
variable {p:Int}
def uW(p:Int)(D:Nat)(r:List Int)(k:Int)(s:List Int):List Int:=mkv D fun j=>(at0 r j+k*at0 s j)%p
theorem zMw{D:Nat}{r s:List Int}{k:Int}:(uW p D r k s).length=D:=zU _ _
def zIQ(p:Int)(D i:Nat)(r:List Int)(k:Int)(s:List Int):List Int:=mkv D fun j=>if j<i then(at0 r j+k*at0 s j)%p else at0 r j
theorem zJA{D:Nat}{r s:List Int}{k:Int}(hr:r.length=D):zIQ p D 0 r k s=r:=by
 conv=>rhs;rw[vC hr]
 rfl
theorem zJB{D:Nat}{r s:List Int}{k:Int}:zIQ p D D r k s=uW p D r k s:=yA (by omega)
theorem zMx{D i:Nat}{r s:List Int}{k a:Int}(ha:a=(at0 r i+k*at0 s i)%p):(zIQ p D i r k s).set i a=zIQ p D (i+1) r k s:=by
 simp only[zIQ];rw[qX]
 grind
theorem zPA{D i:Nat}{r s:List Int}{k:Int}(hi:i<D):at0 (zIQ p D i r k s) i=at0 r i:=by rw[zIQ,yC hi,if_neg (by omega)]
theorem zFe{D i:Nat}{r s:List Int}{k:Int}:(zIQ p D i r k s).length=D:=zU _ _
end
section
variable {p:Int} (hp:Prime p)
 include hp
theorem zMy{a:Int}(_h0:-1000≤a)(_h1:a≤1000):zLg a p=dJ (a%p):=by
 have h7:=hp.pos;have e1:=Jaa a (show 0<p by omega);have e2:=Qj a (show 0<p by omega);have e3:(Ja7 a p+p)%p=a%p:=by
  rw[Uc];have:=Ux a p
  conv=>rhs;rw[←this]
  simp
 unfold zLg xR;rw[if_neg (by omega),bs,zF (by omega) (by omega),bs,if_neg (by omega),bs,Lf (by omega),e3]
theorem zMz{a:Int}(_h0:-1000≤a)(_h1:a≤1000):zUM a p=dJ (a%p):=by
 have h7:=hp.pos;have e1:=Jaa a (show 0<p by omega);have e2:=Qj a (show 0<p by omega);have e3:(Ja7 a p+p)%p=a%p:=by
  rw[Uc];have:=Ux a p
  conv=>rhs;rw[←this]
  simp
 unfold zUM xR;rw[if_neg (by omega),bs]
 by_cases h:Ja7 a p<0
 ·rw[dP h,zK,zF (by omega) (by omega),bs,←e3,K1 (by omega) (by omega)]
 ·rw[dO h,zL,←e3,Uc,K1 (by omega) (by omega)]
theorem zBp{D:Nat}{r s:List Int}{k:Int}:Row p D (uW p D r k s):=by have h7:=hp.pos;refine⟨zU _ _,fun i hi=>?_⟩;have e:at0 (uW p D r k s) i=(at0 r i+k*at0 s i)%p:=yC hi;have e1:=Kv (at0 r i+k*at0 s i) (show p≠0 by omega);have e2:=Ki (at0 r i+k*at0 s i) (show 0<p by omega);omega
theorem zC1{k b:Int}(hk:-7≤k∧k≤7)(hb:0≤b∧b≤p-1):-49≤k*b∧k*b≤49:=by
 have h7:=hp.pos;rcases Int.le_total 0 k with h|h
 ·have h1:=Hq h hb.1
  have h2:=Lg hk.2 (show b≤7 by omega) hb.1 (by omega);omega
 ·have h1:=Hq (show 0≤ -k by omega) hb.1
  have h2:=Lg (show -k≤7 by omega) (show b≤7 by omega) hb.1 (by omega);rw[Int.neg_mul]at h1 h2;omega
theorem zJC{D:Nat}{r s:List Int}{k:Int}(hr:Row p D r)(hs:Row p D s)(hk:-7≤k∧k≤7)(hD:D≤1000000):f_Q r s k p=dJ (uW p D r k s):=by
 have h7:=hp.pos;have:=zM (body:=zNa r s k p) (r:=uW p D r k s) (fun i=>(zIQ p D i r k s,(i:Int))) D (fun i hi=>by
  have a1:=hr.2 i hi;have a2:=hs.2 i hi;have a3:=zC1 hp hk a2;unfold zNa;simp only
  rw[hr.1,yI hi,zK,yF (by grind[zFe]),bs,yF (by rw[hs.1];exact hi),bs,zF (by omega) (by omega),bs,zPA hi,zF (by omega) (by omega),bs,zMy hp (by omega) (by omega),bs,bs,zF (by omega) (by omega),bs,cs,J8,zMx rfl]) (by
  unfold zNa;simp only
  rw[hr.1,vR,zL,zJB])
 rw[show((0:Nat):Int)=0 from rfl,zJA hr.1]at this
 grind[f_Q]
theorem uQ{D:Nat}{r s:List Int}{k:Int}(hr:Row p D r)(hs:Row p D s)(hk:-7≤k∧k≤7)(hD:D≤1000000):f_H p r k s=dJ (uW p D r k s):=by
 have h7:=hp.pos;have:=zM (body:=zUN p k s) (r:=uW p D r k s) (fun i=>(zIQ p D i r k s,(i:Int))) D (fun i hi=>by
  have a1:=hr.2 i hi;have a2:=hs.2 i hi;have a3:=zC1 hp hk a2;unfold zUN;simp only
  rw[zFe,yI hi,zK,hs.1,yI hi,zK,yF (by grind[zFe]),bs,yF (by rw[hs.1];exact hi),bs,zF (by omega) (by omega),bs,zPA hi,zF (by omega) (by omega),bs,zMz hp (by omega) (by omega),bs,bs,zF (by omega) (by omega),bs,cs,J8,zMx rfl]) (by
  unfold zUN;simp only
  rw[zFe,vR,zL,zJB])
 rw[show((0:Nat):Int)=0 from rfl,zJA hr.1]at this;unfold f_H;rw[xX (by rw[hr.1];omega),bs,this,bs]
end
theorem zE4{p:Int}{D:Nat}{r s:List Int}:uW p D r (p-1) s=uW p D r (-1) s:=yA fun j _=>by rw[show at0 r j+(p-1)*at0 s j=at0 r j+ -1*at0 s j+p*at0 s j from by grind,Hs]
theorem zQK{p:Int}{D:Nat}{r s:List Int}(hr:Row p D r)(hs:Row p D s):(∀j,j<D→at0 (uW p D r (-1) s) j=0)↔r=s:=by
 constructor
 ·intro h
  rw[vC hr.1,vC hs.1];refine yA fun j hj=>?_
  have h1:=h j hj;rw[uW,yC hj]at h1;have a1:=hr.2 j hj;have a2:=hs.2 j hj;obtain⟨c,hc⟩:=Int.dvd_of_emod_eq_zero h1;have:c=0:=by
   rcases Int.lt_trichotomy c 0 with h|h|h
   ·have:=Lz (show c≤ -1 by omega) (show 0≤p by omega);omega
   ·exact h
   ·have:=Lz (show 1≤c by omega) (show 0≤p by omega);omega
  grind
 ·rintro rfl j hj
  rw[uW,yC hj,show at0 r j+ -1*at0 r j=0 from by omega];simp
end Go.Pl

namespace Go.Pl
open Go Go.Ab Go.Wk Go.Pc
def VOk(n:Nat)(p:Int)(D:Nat)(vals:Mx):Prop:=vals.length=n∧ ∀i,i<n→Row p D (vals.getD i [])
def stp(m:zC)(D:Nat)(vals:Mx)(v:List Int)(w:Nat):List Int:=uW m.Prime D (xJ m.Prime D v (m.zG.getD w [])) 1 (vals.getD w [])
def ev(m:zC)(D:Nat)(vals:Mx)(v:List Int)(ws:List Nat):List Int:=ws.foldl (stp m D vals) v
theorem zQL{m:zC}{D:Nat}{vals:Mx}{v:List Int}{a b:List Nat}:ev m D vals v (a++b)=ev m D vals (ev m D vals v a) b:=by simp[ev,G5]
theorem zNR{m:zC}{D:Nat}{vals:Mx}{w:Nat}:∀(k:Nat)(v:List Int),ev m D vals v (J1 k w)=iter k (fun v=>stp m D vals v w) v
 |0,_=>rfl
 |k+1,v=>by rw[Ju];show ev m D vals (stp m D vals v w) (J1 k w)=_;rw[zNR k];rfl
abbrev z0(D:Nat):List Int:=J1 D 0
theorem zIe{p:Int}{D:Nat}(hp:0<p):Row p D (z0 D):=by
 refine⟨by simp,fun i hi=>?_⟩
 grind
theorem wU{p:Int}{D:Nat}{r:List Int}{B:Mx}(hp:0<p):Row p D (xJ p D r B):=by
 refine⟨zU _ _,fun i hi=>?_⟩;have e1:=Kv (S D (fun l=>at0 r l*ent B l i)) (show p≠0 by omega);have e2:=Ki (S D (fun l=>at0 r l*ent B l i)) hp
 grind[xJ,yC]
section
variable {n D:Nat}{m:zC} (hm:MOk n m D) (hn:n≤14) {vals:Mx} (hv:VOk n m.Prime D vals)
 include hm hn hv
theorem zC2{v:List Int}{w:Nat}:Row m.Prime D (stp m D vals v w):=by have _:=hn;have _:=hv;exact zBp hm.p
theorem zK6{v:List Int}(h:Row m.Prime D v):∀ws,Row m.Prime D (ev m D vals v ws):=by
 intro ws
 induction ws generalizing v with
 |nil=>exact h
 |cons w ws ih=>exact ih (zC2 hm hn hv)
theorem zCf{v:List Int}{w:Nat}(h:Row m.Prime D v)(hw:w<n):zNj m vals v (w:Int)=dJ (stp m D vals v w):=by have _:=hn;have h7:=hm.p.pos;have h3:=hm.d3;unfold zNj;rw[zT [] (by rw[hm.len];exact hw),bs,hm.d,zCz hm.p (by omega) h (hm.mat w hw),bs,zT [] (by rw[hv.1];exact hw),bs,uQ hm.p (wU (by omega)) (hv.2 w hw) (by omega) (by omega),bs];rfl
theorem zG3{v x:List Int}(h:Row m.Prime D v)(hl:x.length=n)(hx:∀i,i<n→0≤at0 x i∧at0 x i≤6):zUQ m vals v x=dJ (ev m D vals v (nw 0 x)):=by
 have:=zM (body:=zNl m vals x) (r:=ev m D vals v (nw 0 x)) (fun i=>(ev m D vals v (nw 0 (x.take i)),(i:Int))) n (fun i hi=>by
  have tk:=hx i hi;unfold zNl;simp only
  rw[hl,yI hi,zK];rw[vN (S:=Row m.Prime D) (body:=zNk m vals x (ev m D vals v (nw 0 (x.take i)),(i:Int))) (fun v=>v) (fun v=>stp m D vals v i) (at0 x i) tk.1 (by grind[zC2]) (fun u q hu hq=>by
   unfold zNk;simp only
   rw[yF (by omega),bs,dP hq,zK,zCf hm hn hv hu hi,bs,zF (by omega) (by omega),bs,cs]) (fun u hu=>by
   unfold zNk;simp only
   rw[yF (by omega),bs,dO (by omega),zL]) (zK6 hm hn hv h _),bs,zF (by omega) (by omega),bs,cs]
  grind[zK5,zQL,zNR]) (by
  unfold zNl
  grind)
 rw[show((0:Nat):Int)=0 from rfl,Km]at this
 grind[nw,ev,zUQ]
end
theorem zSY{v:List Int}(hl:v.length≤1000000):IsB (f_U v) (∀i,i<v.length→at0 v i=0):=by
 refine qI v.length (fun i=>at0 v i=0) rfl (fun i hi _=>?_) ?_
 ·unfold zMX
  rw[yI hi,zK,yF hi,bs]
  by_cases h:at0 v i=0
  ·rw[show(at0 v i != 0)=dM from by grind,zL,zF (by omega) (by omega),bs,cs];grind
  grind
 ·unfold zMX
  simp
theorem zFY{v:List Int}(hl:v.length≤1000000):IsB (zNm v) (∀i,i<v.length→at0 v i=0):=zSY hl
section
variable {x:SPr} (h:Pres x) {m:zC}{D:Nat} (hm:MOk x.zA.length m D) {vals:Mx} (hv:VOk x.zA.length m.Prime D vals)
 include h hm hv
abbrev dfc(m:zC)(D:Nat)(vals:Mx)(q:Rl):List Int:=uW m.Prime D (ev m D vals (z0 D) q.1) (-1) (ev m D vals (z0 D) q.2)
theorem zW8:(sH x).length≤300:=by
 have _:=hv;have _:=hm;have h6:=h.os.1;have ab:=zId h x.zA.length (Jk _)
 grind[sH]
end
end Go.Pl

namespace Go.Pl
open Go Go.Ab Go.Wk Go.Pc
theorem zQM{m:zC}{D:Nat}{vals:Mx}(hp:Prime m.Prime)(hd:m.Dim=(D:Int))(hD:D≤8)(hl:vals.length≤1048576):IsB (yAS m vals) (∀i,i<vals.length→Row m.Prime D (vals.getD i [])):=by
 refine qI vals.length (fun i=>Row m.Prime D (vals.getD i [])) rfl (fun i hi _=>?_) ?_
 ·refine uP (zG2 hp hD (r:=vals.getD i [])) (by omega) ?_
  unfold zQo;rw[yI hi,zK,zT [] hi,bs,hd]
 ·unfold zQo
  simp
theorem zPB{a b:Int}(h:a=b):(a==b)=dL:=by simp[h]
theorem zJD{a b:Int}(h:a≠b):(a==b)=dM:=by simp[h]
end Go.Pl

namespace Go.Pl
open Go Go.Ab Go.Wk Go.Pc
theorem IsB.both{o o':Option Bool}{P:Prop}(h:IsB o P)(h':IsB o' P):(o=dJ dL∧o'=dJ dL∧P)∨(o=dJ dM∧o'=dJ dM∧ ¬P):=by
 rcases h with⟨h1,h2⟩|⟨h1,h2⟩<;>rcases h' with⟨h3,h4⟩|⟨h3,h4⟩
 all_goals grind
end Go.Pl

namespace Go.Pl
open Go Go.Ab Go.Wk Go.Pc
def Sp(p:Int)(n:Nat)(R:Mx)(v:List Int):Prop:=∃c:Nat→Int,∀j,j<n→(S R.length fun i=>c i*ent R i j)%p=at0 v j%p
section
variable {p:Int}{n:Nat}{R R':Mx}{u v w:List Int}
theorem qL{i:Nat}(hi:i<R.length):Sp p n R (R.getD i []):=by
 refine⟨fun l=>if l=i then 1 else 0,fun j _=>?_⟩
 grind[zAR]
theorem zBK{k:Int}(hv:Sp p n R v)(hw:Sp p n R w)(h:∀j,j<n→at0 u j%p=(at0 v j+k*at0 w j)%p):Sp p n R u:=by
 obtain⟨c,hc⟩:=hv;obtain⟨d,hd⟩:=hw;refine⟨fun i=>c i+k*d i,fun j hj=>?_⟩;have e:(S R.length fun i=>(c i+k*d i)*ent R i j)=(S R.length fun i=>c i*ent R i j)+k*(S R.length fun i=>d i*ent R i j):=by
  rw[←zDq,←zDp]
  grind
 rw[e,h j hj,K9,hc j hj,Jv,hd j hj,←Jv,←K9]
theorem zFf(h:∀j,j<n→at0 u j%p=0):Sp p n R u:=by refine⟨fun _=>0,fun j hj=>?_⟩;rw[h j hj,xL (g:=fun _=>0) (fun i _=>by simp),qK];simp
theorem zAB(h:∀i,i<R.length→Sp p n R' (R.getD i []))(hv:Sp p n R v):Sp p n R' v:=by
 obtain⟨c,hc⟩:=hv;have key:∀m,m≤R.length→ ∃d:Nat→Int,∀j,j<n→(S R'.length fun i=>d i*ent R' i j)%p=(S m fun i=>c i*ent R i j)%p:=by
  intro m
  induction m with
  |zero=>intro _;exact⟨fun _=>0,fun j _=>by rw[xL (g:=fun _=>0) (fun i _=>by simp),qK];rfl⟩
  |succ m ih=>
   intro hm;obtain⟨d,hd⟩:=ih (by omega);obtain⟨e,he⟩:=h m (by omega);refine⟨fun i=>d i+c m*e i,fun j hj=>?_⟩;have e1:(S R'.length fun i=>(d i+c m*e i)*ent R' i j)=(S R'.length fun i=>d i*ent R' i j)+c m*(S R'.length fun i=>e i*ent R' i j):=by
    rw[←zDq,←zDp]
    grind
   rw[e1,K9,hd j hj,Jv,he j hj,←Jv,←K9];rfl
 obtain⟨d,hd⟩:=key R.length (Jk _);exact⟨d,by grind⟩
end
def kJ(p:Int)(n:Nat)(R R':Mx):Prop:=(∀i,i<R.length→Sp p n R' (R.getD i []))∧ ∀i,i<R'.length→Sp p n R (R'.getD i [])
theorem kJ.refl{p:Int}{n:Nat}{R:Mx}:kJ p n R R:=⟨fun _ h=>qL h,fun _ h=>qL h⟩
theorem kJ.symm{p:Int}{n:Nat}{R R':Mx}(h:kJ p n R R'):kJ p n R' R:=⟨h.2,h.1⟩
theorem kJ.trans{p:Int}{n:Nat}{R R' R2:Mx}(h:kJ p n R R')(h':kJ p n R' R2):kJ p n R R2:=⟨fun i hi=>zAB h'.1 (h.1 i hi),fun i hi=>zAB h.2 (h'.2 i hi)⟩
theorem kJ.iff{p:Int}{n:Nat}{R R':Mx}{v:List Int}(h:kJ p n R R'):Sp p n R v↔Sp p n R' v:=⟨fun g=>zAB h.1 g,fun g=>zAB h.2 g⟩
structure Red (p:Int) (n:Nat) (R:Mx) (pv:Nat→Nat):Prop where
 row:∀i,i<R.length→Row p n (R.getD i [])
 lt:∀i,i<R.length→pv i<n
 one:∀i,i<R.length→ent R i (pv i)=1
 low:∀i,i<R.length→ ∀j,j<pv i→ent R i j=0
 off:∀i k,i<R.length→k<R.length→k≠i→ent R k (pv i)=0
 mono:∀i j,i<j→j<R.length→pv i<pv j
section
variable {p:Int} (hp:1<p) {n:Nat}{R R':Mx}{pv pv':Nat→Nat}{v:List Int}
theorem Red.coef(h:Red p n R pv){c:Nat→Int}(hc:∀j,j<n→(S R.length fun i=>c i*ent R i j)%p=at0 v j%p){k:Nat}(hk:k<R.length):c k%p=at0 v (pv k)%p:=by rw[←hc (pv k) (h.lt k hk),zAR (k:=k) hk (fun i hi gg=>by rw[h.off k i hk hi gg];simp),h.one k hk];simp
theorem Red.expand(h:Red p n R pv)(hv:Sp p n R v):∀j,j<n→at0 v j%p=(S R.length fun i=>at0 v (pv i)*ent R i j)%p:=by obtain⟨c,hc⟩:=hv;intro j hj;rw[←hc j hj];exact zAA fun i hi=>by rw[Jv,h.coef hc hi,←Jv]
theorem Red.lead(h:Red p n R pv)(hv:Sp p n R v)(gg:∃j,j<n∧at0 v j%p≠0):∃i,i<R.length∧(∀j,j<pv i→at0 v j%p=0)∧at0 v (pv i)%p≠0:=by
 have hx:=h.expand hv;have h1:∃i,i<R.length∧at0 v (pv i)%p≠0:=by
  refine Classical.byContradiction fun hn=>?_
  obtain⟨j,hj,aa⟩:=gg;refine aa ?_;rw[hx j hj,zAA (g:=fun _=>0) (fun i hi=>by
   have:at0 v (pv i)%p=0:=by grind
   rw[Jv,this];simp),qK];rfl
 obtain⟨i,⟨hi,fx⟩,eQ⟩:=zEe h1;refine⟨i,hi,fun j hj=>?_,fx⟩;have mY:j<n:=Nat.lt_trans hj (h.lt i hi);rw[hx j mY,zAA (g:=fun _=>0) (fun k hk=>by
  rcases Jn k i with hki|hki
  ·have:at0 v (pv k)%p=0:=by grind
   rw[Jv,this];simp
  ·have h2:pv i≤pv k:=by
    rcases Jn i k with h3|h3
    ·exact Nat.le_of_lt (h.mono i k h3 hk)
    grind
   rw[h.low k hk j (by omega)];simp),qK];rfl
 include hp
theorem Red.row_lead(h:Red p n R pv){i:Nat}(hi:i<R.length):(∃j,j<n∧at0 (R.getD i []) j%p≠0)∧(∀j,j<pv i→at0 (R.getD i []) j%p=0)∧at0 (R.getD i []) (pv i)%p≠0:=by
 have h1:at0 (R.getD i []) (pv i)%p≠0:=by have:=h.one i hi;simp only[ent]at this;rw[this,K1 (by omega) hp];omega
 refine⟨⟨pv i,h.lt i hi,h1⟩,fun j hj=>?_,h1⟩;have:=h.low i hi j hj
 simp_all
theorem Red.piv_in(h:Red p n R pv)(h':Red p n R' pv')(hs:∀i,i<R.length→Sp p n R' (R.getD i [])){i:Nat}(hi:i<R.length):∃k,k<R'.length∧pv' k=pv i:=by
 obtain⟨g1,g2,g3⟩:=h.row_lead hp hi;obtain⟨k,hk,g4,g5⟩:=h'.lead (hs i hi) g1
 grind
theorem Red.piv_eq(h:Red p n R pv)(h':Red p n R' pv')(hs:kJ p n R R'):∀i,(i<R.length↔i<R'.length)∧(i<R.length→pv i=pv' i):=by
 intro i
 induction i using Nat.strongRecOn with
 |_ i ih=>
  have a:i<R.length→i<R'.length∧pv' i≤pv i:=fun hi=>by
   obtain⟨k,hk,e⟩:=h.piv_in hp h' hs.1 hi;have hki:i≤k:=by
    refine Classical.byContradiction fun hn=>?_
    have h1:=(ih k (by omega)).2 (by omega);have h2:=h.mono k i (by omega) hi;omega
   refine⟨by omega,?_⟩;rcases Jn i k with h3|h3
   ·have:=h'.mono i k h3 hk;omega
   grind
  have b:i<R'.length→i<R.length∧pv i≤pv' i:=fun hi=>by
   obtain⟨k,hk,e⟩:=h'.piv_in hp h hs.2 hi;have hki:i≤k:=by
    refine Classical.byContradiction fun hn=>?_
    have h1:=(ih k (by omega)).2 hk;have h2:=h'.mono k i (by omega) hi;omega
   refine⟨by omega,?_⟩;rcases Jn i k with h3|h3
   ·have:=h.mono i k h3 hk;omega
   grind
  omega
theorem Red.unique(h:Red p n R pv)(h':Red p n R' pv')(hs:kJ p n R R'):R=R':=by
 have p6:=h.piv_eq hp h' hs;have hl:R.length=R'.length:=by
  rcases Qo R.length R'.length with g|g|g
  all_goals grind
 refine zHW (D:=R.length) rfl hl.symm fun i hi=>?_
 have hH:i<R'.length:=by omega
 have r1:=h.row i hi;have r2:=h'.row i hH;rw[vC r1.1,vC r2.1];refine yA fun j hj=>?_
 have hx:=h'.expand (hs.1 i hi) j hj;rw[xL (g:=fun k=>(if k=i then 1 else 0)*ent R' k j) (fun k hk=>by
  congr 1
  have e:=(p6 k).2 (by omega)
  by_cases hki:k=i
  ·subst hki;rw[if_pos rfl,←e];exact h.one k hi
  ·rw[if_neg hki,←e];exact h.off k i (by omega) hi (Ne.symm hki)),zAR (k:=i) hH (fun k _ hk=>by simp[hk])]at hx
 simp only[if_true,Ja3,ent]at hx;have a1:=r1.2 j hj;have a2:=r2.2 j hj;rw[K1 a1.1 (by omega),K1 a2.1 (by omega)]at hx;exact hx
end
end Go.Pl

namespace Go.Pl
open Go Go.Ab Go.Wk Go.Pc
def mkR(m:Nat)(F:Nat→List Int):Mx:=(Jh m).map F
theorem sJ{m:Nat}{F:Nat→List Int}:(mkR m F).length=m:=by simp[mkR]
theorem zA0{m:Nat}{F:Nat→List Int}{i:Nat}(h:i<m):(mkR m F).getD i []=F i:=by simp[mkR,J3,h]
theorem zK7{m:Nat}{F:Nat→List Int}{i:Nat}(h:i<m):ixO (mkR m F) (i:Int)=dJ (F i):=by rw[zT [] (by grind[sJ]),zA0 h]
theorem zAd{m:Nat}{F G:Nat→List Int}(h:∀i,i<m→F i=G i):mkR m F=mkR m G:=by grind[mkR,U4]
theorem zSZ{R:Mx}{m:Nat}(h:R.length=m):R=mkR m (fun i=>R.getD i []):=zHW (D:=m) h sJ (by grind[zA0])
theorem zGR{m:Nat}{F:Nat→List Int}{i:Nat}{a:List Int}:(mkR m F).set i a=mkR m (fun k=>if k=i then a else F k):=by
 apply Kl;intro k
 by_cases hk:k<m
 ·by_cases h:i=k
  ·grind[mkR]
  ·rw[Qs h];simp[mkR,hk,Ne.symm h]
 grind[mkR]
theorem zFg{m:Nat}{F:Nat→List Int}{i j:Nat}(h:i<m):ent (mkR m F) i j=at0 (F i) j:=by simp only[ent,zA0 h]
theorem zTa{s:Nat→Int×Int×Int×Int}(n:Nat){r:Int×Int}(h:∀i,i<n→zNe (s i)=dJ (.inl (s (i+1))))(he:zNe (s n)=dJ (.inr r)){p q:Int}(hq:zLg r.2 p=dJ q)(h1:r.1=1)(hs:s 0=(p,(s 0).2.1,0,1)):
  zRp (s 0).2.1 p=dJ (q,dL):=by
 unfold zRp;rw[←hs,zM s n h he,bs,hq,bs,h1];rfl
def zTb:List (Int×Int×Int×Int)→Nat→Int×Int×Int×Int:=fun l i=>l.getD i (0,0,0,0)
theorem tH(l:List (Int×Int×Int×Int))(n:Nat){r:Int×Int}(h:∀i,i<n→zNe (zTb l i)=dJ (.inl (zTb l (i+1))))(he:zNe (zTb l n)=dJ (.inr r)){p q x:Int}(hq:zLg r.2 p=dJ q)(h1:r.1=1)(hs:zTb l 0=(p,x,0,1)):
  zRp x p=dJ (q,dL):=by
 have:=zTa (s:=zTb l) n h he hq h1 (by rw[hs])
 grind
theorem lt1{P:Nat→Prop}(h0:P 0):∀i,i<1→P i:=by grind
theorem lt2{P:Nat→Prop}(h0:P 0)(h1:P 1):∀i,i<2→P i:=by grind
theorem lt3{P:Nat→Prop}(h0:P 0)(h1:P 1)(h2:P 2):∀i,i<3→P i:=by grind
theorem zFh{p x:Int}(hp:Prime p)(h0:1≤x)(h1:x≤p-1):∃r,zRp x p=dJ (r,dL)∧0≤r∧r≤p-1∧(x*r)%p=1:=by
 have c:(p=2∧x=1)∨(p=3∧(x=1∨x=2))∨(p=5∧(x=1∨x=2∨x=3∨x=4))∨(p=7∧(x=1∨x=2∨x=3∨x=4∨x=5∨x=6)):=by unfold Prime at hp;omega
 rcases c with⟨rfl,rfl⟩|⟨rfl,rfl|rfl⟩|⟨rfl,rfl|rfl|rfl|rfl⟩|⟨rfl,rfl|rfl|rfl|rfl|rfl|rfl⟩
 ·exact⟨1,tH [(2,1,0,1),(1,0,1,-2)] 1 (lt1 (by rfl)) (r:=(1,1)) (by rfl) (by rfl) rfl rfl,by decide,by decide,by decide⟩
 ·exact⟨1,tH [(3,1,0,1),(1,0,1,-3)] 1 (lt1 (by rfl)) (r:=(1,1)) (by rfl) (by rfl) rfl rfl,by decide,by decide,by decide⟩
 ·exact⟨2,tH [(3,2,0,1),(2,1,1,-1),(1,0,-1,3)] 2 (lt2 (by rfl) (by rfl)) (r:=(1,-1)) (by rfl) (by rfl) rfl rfl,by decide,by decide,by decide⟩
 ·exact⟨1,tH [(5,1,0,1),(1,0,1,-5)] 1 (lt1 (by rfl)) (r:=(1,1)) (by rfl) (by rfl) rfl rfl,by decide,by decide,by decide⟩
 ·exact⟨3,tH [(5,2,0,1),(2,1,1,-2),(1,0,-2,5)] 2 (lt2 (by rfl) (by rfl)) (r:=(1,-2)) (by rfl) (by rfl) rfl rfl,by decide,by decide,by decide⟩
 ·exact⟨2,tH [(5,3,0,1),(3,2,1,-1),(2,1,-1,2),(1,0,2,-5)] 3 (lt3 (by rfl) (by rfl) (by rfl)) (r:=(1,2)) (by rfl) (by rfl) rfl rfl,by decide,by decide,by decide⟩
 ·exact⟨4,tH [(5,4,0,1),(4,1,1,-1),(1,0,-1,5)] 2 (lt2 (by rfl) (by rfl)) (r:=(1,-1)) (by rfl) (by rfl) rfl rfl,by decide,by decide,by decide⟩
 ·exact⟨1,tH [(7,1,0,1),(1,0,1,-7)] 1 (lt1 (by rfl)) (r:=(1,1)) (by rfl) (by rfl) rfl rfl,by decide,by decide,by decide⟩
 ·exact⟨4,tH [(7,2,0,1),(2,1,1,-3),(1,0,-3,7)] 2 (lt2 (by rfl) (by rfl)) (r:=(1,-3)) (by rfl) (by rfl) rfl rfl,by decide,by decide,by decide⟩
 ·exact⟨5,tH [(7,3,0,1),(3,1,1,-2),(1,0,-2,7)] 2 (lt2 (by rfl) (by rfl)) (r:=(1,-2)) (by rfl) (by rfl) rfl rfl,by decide,by decide,by decide⟩
 ·exact⟨2,tH [(7,4,0,1),(4,3,1,-1),(3,1,-1,2),(1,0,2,-7)] 3 (lt3 (by rfl) (by rfl) (by rfl)) (r:=(1,2)) (by rfl) (by rfl) rfl rfl,by decide,by decide,by decide⟩
 ·exact⟨3,tH [(7,5,0,1),(5,2,1,-1),(2,1,-1,3),(1,0,3,-7)] 3 (lt3 (by rfl) (by rfl) (by rfl)) (r:=(1,3)) (by rfl) (by rfl) rfl rfl,by decide,by decide,by decide⟩
 ·exact⟨6,tH [(7,6,0,1),(6,1,1,-1),(1,0,-1,7)] 2 (lt2 (by rfl) (by rfl)) (r:=(1,-1)) (by rfl) (by rfl) rfl rfl,by decide,by decide,by decide⟩
end Go.Pl

namespace Go.Pl
open Go Go.Ab Go.Wk Go.Pc
structure zQN (p:Int) (n m:Nat) (rows:Mx) (c:Nat) (M:Mx) (d:Nat) (pv:Nat→Nat):Prop where
 len:M.length=m
 row:∀i,i<m→Row p n (M.getD i [])
 dm:d≤m
 lt:∀i,i<d→pv i<c
 one:∀i,i<d→ent M i (pv i)=1
 low:∀i,i<d→ ∀j,j<pv i→ent M i j=0
 off:∀i k,i<d→k<m→k≠i→ent M k (pv i)=0
 mono:∀i j,i<j→j<d→pv i<pv j
 zero:∀k,d≤k→k<m→ ∀j,j<c→ent M k j=0
 sp:kJ p n M rows
theorem zC3{p:Int}{n m:Nat}{F:Nat→List Int}{i:Nat}(h:i<m):Sp p n (mkR m F) (F i):=by
 have:=qL (p:=p) (n:=n) (R:=mkR m F) (i:=i) (by grind[sJ])
 grind[zA0]
theorem zTc(a e r p:Int):a%p=((a+(0-e)*r)%p+e*r)%p:=by rw[K9,Jz,←K9,show a+(0-e)*r+e*r=a from by grind]
section
variable {p:Int} (hp:Prime p) {n m:Nat}{rows:Mx}{c:Nat}{M:Mx}{d:Nat}{pv:Nat→Nat} (h:zQN p n m rows c M d pv) (hc:c<n) (hd:d<m)
 include hp h hc hd
theorem zQN.pivot{t:Nat}(ht:d≤t)(bn:t<m)(gg:ent M t c≠0){q:Int}(hq:(ent M t c*q)%p=1):
  zQN p n m rows (c+1) (mkR m fun i=>if i=d then mkv n fun j=>(ent M t j*q)%p else uW p n (if i=t then M.getD d []else M.getD i []) (0-at0 (if i=t then M.getD d []else M.getD i []) c) (mkv n fun j=>(ent M t j*q)%p)) (d+1) (fun i=>if i=d then c else pv i):=by
 have h7:=hp.pos;have pr:∀j,j<n→at0 (mkv n fun j=>(ent M t j*q)%p) j=(ent M t j*q)%p:=fun j hj=>yC hj
 have p0:∀j,j<c→(ent M t j*q)%p=0:=fun j hj=>by rw[h.zero t ht bn j hj];simp
 have prow:Row p n (mkv n fun j=>(ent M t j*q)%p):=⟨zU _ _,fun j hj=>by have e1:=Kv (ent M t j*q) (show p≠0 by omega);have e2:=Ki (ent M t j*q) (show 0<p by omega);rw[pr j hj];omega⟩
 have hG:∀i,i<m→i≠d→Row p n (if i=t then M.getD d []else M.getD i []):=fun i hi _=>by
  split
  ·exact h.row d hd
  ·exact h.row i hi
 have eo:∀i j,i<m→i≠d→j<n→ent (mkR m fun i=>if i=d then mkv n fun j=>(ent M t j*q)%p else uW p n (if i=t then M.getD d []else M.getD i []) (0-at0 (if i=t then M.getD d []else M.getD i []) c) (mkv n fun j=>(ent M t j*q)%p)) i j=(at0 (if i=t then M.getD d []else M.getD i []) j+(0-at0 (if i=t then M.getD d []else M.getD i []) c)*((ent M t j*q)%p))%p:=fun i j hi eD hj=>by rw[zFg hi,if_neg eD,uW,yC hj,pr j hj]
 have el:∀i j,i<m→i≠d→j<c→ent (mkR m fun i=>if i=d then mkv n fun j=>(ent M t j*q)%p else uW p n (if i=t then M.getD d []else M.getD i []) (0-at0 (if i=t then M.getD d []else M.getD i []) c) (mkv n fun j=>(ent M t j*q)%p)) i j=at0 (if i=t then M.getD d []else M.getD i []) j:=fun i j hi eD hj=>by rw[eo i j hi eD (by omega),p0 j hj,Lt,Lu];have:=(hG i hi eD).2 j (by omega);exact K1 this.1 (by omega)
 have ed:∀j,j<n→ent (mkR m fun i=>if i=d then mkv n fun j=>(ent M t j*q)%p else uW p n (if i=t then M.getD d []else M.getD i []) (0-at0 (if i=t then M.getD d []else M.getD i []) c) (mkv n fun j=>(ent M t j*q)%p)) d j=(ent M t j*q)%p:=fun j hj=>by rw[zFg hd,if_pos rfl,pr j hj]
 have ec:∀i,i<m→i≠d→ent (mkR m fun i=>if i=d then mkv n fun j=>(ent M t j*q)%p else uW p n (if i=t then M.getD d []else M.getD i []) (0-at0 (if i=t then M.getD d []else M.getD i []) c) (mkv n fun j=>(ent M t j*q)%p)) i c=0:=fun i hi eD=>by rw[eo i c hi eD hc,hq,Ln];rw[show at0 (if i=t then M.getD d []else M.getD i []) c+(0-at0 (if i=t then M.getD d []else M.getD i []) c)=0 from by omega];simp
 have fm:∀i,i<d→(if i=t then M.getD d []else M.getD i [])=M.getD i []:=fun i hi=>by rw[if_neg (by omega)]
 have mI:∀i,d≤i→i<m→ ∀j,j<c→at0 (if i=t then M.getD d []else M.getD i []) j=0:=fun i hi fx j hj=>by
  split
  ·exact h.zero d (Jk _) hd j hj
  ·exact h.zero i hi fx j hj
 refine⟨sJ,fun i hi=>?_,by omega,fun i hi=>?_,fun i hi=>?_,fun i hi j hj=>?_,fun i k hi hk eD=>?_,fun i j eg hj=>?_,fun k hk f9 j hj=>?_,?_⟩
 ·rw[zA0 hi]
  split
  ·exact prow
  ·exact zBp hp
 ·by_cases eB:i=d
  ·rw[if_pos eB];omega
  ·rw[if_neg eB];have:=h.lt i (by omega);omega
 ·by_cases eB:i=d
  ·subst eB;rw[if_pos rfl,ed c hc,hq]
  ·have h1:=h.lt i (by omega)
   rw[if_neg eB,el i _ (by omega) eB h1,fm i (by omega)];exact h.one i (by omega)
 ·by_cases eB:i=d
  ·subst eB
   rw[if_pos rfl]at hj;rw[ed j (by omega),p0 j hj]
  ·rw[if_neg eB]at hj
   have h1:=h.lt i (by omega);rw[el i j (by omega) eB (by omega),fm i (by omega)];exact h.low i (by omega) j hj
 ·by_cases eB:i=d
  ·subst eB
   rw[if_pos rfl];exact ec k hk eD
  ·have h1:=h.lt i (by omega)
   rw[if_neg eB]
   by_cases ml:k=d
   ·subst ml
    rw[ed _ (by omega),h.off i t (by omega) bn (by omega)];simp
   ·rw[el k _ hk ml h1]
    split
    ·exact h.off i d (by omega) hd (Ne.symm eB)
    ·exact h.off i k (by omega) hk eD
 ·by_cases hjd:j=d
  ·subst hjd
   rw[if_pos rfl,if_neg (by omega)];exact h.lt i (by omega)
  ·rw[if_neg hjd,if_neg (by omega)];exact h.mono i j eg (by omega)
 ·rcases Jn j c with hjc|hjc
  ·rw[el k j f9 (by omega) hjc];exact mI k (by omega) f9 j hjc
  ·rw[show j=c from by omega];exact ec k f9 (by omega)
 ·refine kJ.trans ⟨fun i hi=>?_,fun i hi=>?_⟩ h.sp
  ·rw[sJ]at hi
   rw[zA0 hi];have hr:Sp p n M (mkv n fun j=>(ent M t j*q)%p):=by
    refine zBK (k:=q) (zFf (u:=[]) fun j _=>by simp[at0]) (qL (R:=M) (i:=t) (by rw[h.len];exact bn)) fun j hj=>?_
    rw[pr j hj,Jz,Hm];simp[at0]
   split
   ·exact hr
   ·refine zBK (k:=0-at0 (if i=t then M.getD d []else M.getD i []) c) (v:=if i=t then M.getD d []else M.getD i []) ?_ hr fun j hj=>?_
    ·split
     ·exact qL (by rw[h.len];exact hd)
     ·exact qL (by rw[h.len];exact hi)
    ·rw[uW,yC hj,Jz]
  ·rw[h.len]at hi
   have hr:=zC3 (p:=p) (n:=n) (m:=m) (F:=fun i=>if i=d then mkv n fun j=>(ent M t j*q)%p else uW p n (if i=t then M.getD d []else M.getD i []) (0-at0 (if i=t then M.getD d []else M.getD i []) c) (mkv n fun j=>(ent M t j*q)%p)) hd;simp only[if_true]at hr;have hg:∀k,k<m→k≠d→Sp p n (mkR m fun i=>if i=d then mkv n fun j=>(ent M t j*q)%p else uW p n (if i=t then M.getD d []else M.getD i []) (0-at0 (if i=t then M.getD d []else M.getD i []) c) (mkv n fun j=>(ent M t j*q)%p)) (if k=t then M.getD d []else M.getD k []):=fun k hk ml=>by
    have h1:=zC3 (p:=p) (n:=n) (m:=m) (F:=fun i=>if i=d then mkv n fun j=>(ent M t j*q)%p else uW p n (if i=t then M.getD d []else M.getD i []) (0-at0 (if i=t then M.getD d []else M.getD i []) c) (mkv n fun j=>(ent M t j*q)%p)) hk;simp only[if_neg ml]at h1;refine zBK (k:=at0 (if k=t then M.getD d []else M.getD k []) c) h1 hr fun j hj=>?_
    rw[uW,yC hj,pr j hj];exact zTc _ _ _ _
   by_cases ef:i=t
   ·
    subst ef;refine zBK (k:=ent M i c) (zFf (u:=[]) fun j _=>by simp[at0]) hr fun j hj=>?_
    rw[pr j hj];have e1:(ent M i c*((ent M i j*q)%p))%p=(ent M i j*((ent M i c*q)%p))%p:=by
     rw[Jv,Jz,←Jv,Jv (ent M i j),Jz,←Jv]
     congr 1
     rw[←Hh,←Hh,Hm (ent M i c)]
    rw[show at0 ([]:List Int) j=0 from by simp[at0],Lh,e1,hq,Ln]
   ·by_cases eB:i=d
    ·subst eB
     have:=hg t bn (by omega);rw[if_pos rfl]at this;exact this
    ·have:=hg i hi eB
     rw[if_neg ef]at this;exact this
end
end Go.Pl

namespace Go.Pl
open Go Go.Ab Go.Wk Go.Pc
theorem tS{v:List Int}(h:v.length≤1000000):f_K v=dJ v:=by grind[f_K,zP]
theorem zIR{rows:Mx}(hm:rows.length≤1000000)(hn:∀i,i<rows.length→(rows.getD i []).length≤1000000):yAQ rows=dJ rows:=by
 unfold yAQ;have:=zM (body:=zQn rows) (r:=rows) (fun i=>(rows.take i,(i:Int))) rows.length (fun i hi=>by
  unfold zQn;simp only
  rw[yI hi,zK,zT [] hi,bs,tS (hn i hi),bs,zP (by simp;omega),bs,zF (by omega) (by omega),bs,cs,Kc hi,J3,J7 hi];rfl) (by
  unfold zQn;simp)
 grind
theorem zQO{M:Mx}{d c m n:Nat}(hm:M.length=m)(hd:d≤m)(hmm:m≤1000000)(eI:∀i,i<m→(M.getD i []).length=n)(hc:c<n):
  ∃t:Nat,d≤t∧t≤m∧zH (zLi (M,(d:Int),(c:Int))) (d:Int)=dJ (t:Int)∧(∀k,d≤k→k<t→ent M k c=0)∧(t<m→ent M t c≠0):=by
 have key:∀k,k≤m-d→ ∃t:Nat,m-k≤t∧t≤m∧zH (zLi (M,(d:Int),(c:Int))) ((m-k:Nat):Int)=dJ (t:Int)∧(∀q,m-k≤q→q<t→ent M q c=0)∧(t<m→ent M t c≠0):=by
  intro k
  induction k with
  |zero=>
   intro _;refine⟨m,by omega,Jk _,?_,by omega,fun h=>by omega⟩;rw[yQ];unfold zLi
   grind
  |succ k ih=>
   intro hk;obtain⟨t,h1,h2,h3,h4,h5⟩:=ih (by omega);have gF:m-(k+1)<m:=by omega
   by_cases hz:ent M (m-(k+1)) c=0
   ·refine⟨t,by omega,h2,?_,fun q q1 q2=>?_,h5⟩
    ·rw[yQ]
     have e:zLi (M,(d:Int),(c:Int)) ((m-(k+1):Nat):Int)=dJ (.inl ((m-k:Nat):Int)):=by
      unfold zLi;simp only
      rw[hm,yI gF,zK,zT [] (by omega),bs,yF (by rw[eI _ gF];exact hc),bs,zPB hz,zK,zF (by omega) (by omega),bs,cs,show m-(k+1)+1=m-k from by omega]
     grind
    grind
   ·refine⟨m-(k+1),Jk _,by omega,?_,by omega,fun _=>hz⟩
    rw[yQ];have e:zLi (M,(d:Int),(c:Int)) ((m-(k+1):Nat):Int)=dJ (.inr ((m-(k+1):Nat):Int)):=by
     unfold zLi;simp only
     rw[hm,yI gF,zK,zT [] (by omega),bs,yF (by rw[eI _ gF];exact hc),bs,zJD hz,zL]
    rw[e]
 obtain⟨t,h1,h2,h3,h4,h5⟩:=key (m-d) (Jk _);rw[show m-(m-d)=d from by omega]at h1 h3 h4
 grind
section
variable {p:Int} (hp:Prime p) {n m:Nat}{M:Mx}{d c t:Nat}
 include hp
theorem zNS{F:Nat→List Int}{q:Int}{b:Bool}(hd:d<m)(hr:Row p n (F d))(hn:n≤1000000)(hq:0≤q∧q≤p-1){v:List Int}(hv:v.length=n){s:Mx×Int×Int}(hs:s.2.1=(d:Int)):
  zH (zOx p s (q,b) v) (mkR m F,0)=dJ (mkR m fun i=>if i=d then mkv n fun j=>(at0 (F d) j*q)%p else F i):=by
 have h7:=hp.pos;have:=zM (body:=zOx p s (q,b) v) (r:=mkR m fun i=>if i=d then mkv n fun j=>(at0 (F d) j*q)%p else F i) (fun k=>(mkR m fun i=>if i=d then mkv n (fun j=>if j<k then(at0 (F d) j*q)%p else at0 (F d) j)else F i,(k:Int))) n (fun k hk=>by
  have a1:=hr.2 k hk;have a2:=zC1 hp (k:=q) (by omega) a1;have a3:=Hq a1.1 hq.1;rw[Hm]at a2;unfold zOx;simp only
  rw[hv,yI hk,zK,hs,zK7 hd];simp only[bs,if_true];rw[yF (by grind[zU]),yC hk,if_neg (by omega)];simp only[bs];rw[zF (by omega) (by omega)];simp only[bs,xR];rw[if_neg (by omega)];simp only[bs];rw[Lf a3,zF (by omega) (by omega)];simp only[bs,J8,cs];rw[zGR]
  congr 3
  refine zAd fun i _=>?_
  by_cases hi:i=d
  ·rw[if_pos hi,if_pos hi,qX]
   grind
  grind) (by
  unfold zOx;simp only
  rw[hv,vR,zL]
  congr 2
  refine zAd fun i _=>?_
  split
  ·exact yA (by omega)
  ·rfl)
 rw[show((0:Nat):Int)=0 from rfl]at this;rw[←this]
 congr 2
 refine zAd fun i _=>?_
 split
 ·rename_i e;subst e
  conv=>lhs;rw[vC hr.1]
  rfl
 ·rfl
theorem zNT{F:Nat→List Int}(hd:d<m)(hc:c<n)(hr:∀i,i<m→Row p n (F i))(hn:n≤1000000)(hm:m≤1000000){r21:Mx}(hl:r21.length=m){s:Mx×Int×Int}(hs:s.2.1=(d:Int))(pe:s.2.2=(c:Int)):
  zH (zRq p s r21) (mkR m F,0)=dJ (mkR m fun i=>if i=d then F d else uW p n (F i) (0-at0 (F i) c) (F d)):=by
 have h7:=hp.pos;have:=zM (body:=zRq p s r21) (r:=mkR m fun i=>if i=d then F d else uW p n (F i) (0-at0 (F i) c) (F d)) (fun k=>(mkR m fun i=>if i<k∧i≠d then uW p n (F i) (0-at0 (F i) c) (F d)else F i,(k:Int))) m (fun k hk=>by
  have a1:=(hr k hk).2 c hc;unfold zRq;simp only
  rw[hl,yI hk,zK,hs,pe]
  by_cases ml:k=d
  ·subst ml
   rw[zAQ rfl,zL,zF (by omega) (by omega),bs,cs]
   grind
  ·rw[zA7 (by omega),zK,zK7 hk,zK7 hd]
   simp only[bs,ne_eq,not_true_eq_false,and_false,if_false,Jay,false_and];rw[yF (by rw[(hr k hk).1];exact hc)];simp only[bs];rw[zF (by omega) (by omega)];simp only[bs];rw[zJC hp (hr k hk) (hr d hd) (by omega) hn,bs,zF (by omega) (by omega)];simp only[bs,J8,cs];rw[zGR]
   grind) (by
  unfold zRq;simp only
  rw[hl,vR,zL]
  congr 2
  refine zAd fun i hi=>?_
  grind)
 grind
end
end Go.Pl

namespace Go.Pl
open Go Go.Ab Go.Wk Go.Pc
theorem Red.empty{p:Int}{n:Nat}:Red p n [] (fun _=>0):=⟨by simp,by simp,by simp,by simp,by simp,by simp⟩
theorem zQN.take{p:Int}{n m:Nat}{rows:Mx}{c:Nat}{M:Mx}{d:Nat}{pv:Nat→Nat}(h:zQN p n m rows c M d pv)(t6:c≤n)(hz:∀k,d≤k→k<m→ ∀j,j<n→ent M k j=0):Red p n (M.take d) pv∧kJ p n (M.take d) rows:=by
 have hl:(M.take d).length=d:=by rw[L4,h.len];exact Uk h.dm
 have hg:∀i,i<d→(M.take d).getD i []=M.getD i []:=by grind
 have dm:=h.dm;refine⟨⟨fun i hi=>?_,fun i hi=>?_,fun i hi=>?_,fun i hi j hj=>?_,fun i k hi hk gg=>?_,fun i j eg hj=>?_⟩,kJ.trans ⟨fun i hi=>?_,fun i hi=>?_⟩ h.sp⟩
 ·rw[hl]at hi;rw[hg i hi];exact h.row i (by omega)
 ·rw[hl]at hi;have:=h.lt i hi;omega
 ·rw[hl]at hi;simp only[ent,hg i hi];exact h.one i hi
 ·rw[hl]at hi;simp only[ent,hg i hi];exact h.low i hi j hj
 ·rw[hl]at hi hk;simp only[ent,hg k hk];exact h.off i k hi (by omega) gg
 ·rw[hl]at hj;exact h.mono i j eg hj
 ·grind[qL]
 ·rw[h.len]at hi
  rcases Jn i d with g|g
  ·grind[qL]
  ·exact zFf fun j hj=>by simp_all
section
variable {p:Int} (hp:Prime p) {n:Nat}{rows:Mx} (hn:n≤100000) (hm:rows.length≤600000) (hr:∀i,i<rows.length→Row p n (rows.getD i []))
 include hp hn hm hr
theorem zM0:∃R pv,f_r p rows=dJ R∧Red p n R pv∧kJ p n R rows:=by
 have h7:=hp.pos;unfold f_r;rw[zIR (by omega) (fun i hi=>by have:=(hr i hi).1;omega),bs];have main:=uK (body:=zRr p) (s:=(rows,0,0)) (Q:=fun r=> ∃(M:Mx)(d:Nat)(pv:Nat→Nat),r=(M,(d:Int))∧d≤M.length∧Red p n (M.take d) pv∧kJ p n (M.take d) rows)
  (fun i s=> ∃(M:Mx)(d:Nat)(pv:Nat→Nat),s=(M,(d:Int),(i:Int))∧zQN p n rows.length rows i M d pv∧i≤n) n (fun c s hc hI=>?_) (fun s hI=>?_) ⟨rows,0,fun _=>0,rfl,⟨rfl,hr,Kf _,fun _ h=>by omega,fun _ h=>by omega,fun _ h=>by omega,fun _ _ h=>by omega,fun _ _ _ h=>by omega,fun _ _ _ _ h=>by omega,kJ.refl⟩,Kf _⟩
 ·obtain⟨r,h1,M,d,pv,rfl,hd,hR,hS⟩:=main
  rw[h1,bs];simp only
  have e:zQ M 0 (d:Int)=dJ (M.take d):=by unfold zQ;rw[if_pos ⟨by omega,by omega,by omega⟩];simp
  rw[e,bs];exact⟨_,_,rfl,hR,hS⟩
 ·
  obtain⟨M,d,pv,rfl,h,t6⟩:=hI;have hl:=h.len;have mw:=h.dm
  by_cases h0:rows.length=0
  ·refine .inr ⟨(M,(d:Int)),?_,M,d,pv,rfl,by omega,h.take t6 fun k hk f9=>by omega⟩
   unfold zRr;simp only
   rw[dO (by omega),zL]
  have e0:zRr p (M,(d:Int),(c:Int))=cond (decide ((d:Int)<(M.length:Int))) ((zH (zLi (M,(d:Int),(c:Int))) (d:Int)).bind fun r6=>
    cond (r6==(M.length:Int)) ((rng ((c:Int)+1)).bind fun v7=>dJ (.inl (M,(d:Int),v7))) (
     (ixO M r6).bind fun v8=>(ixO M (d:Int)).bind fun v9=>(ixO (zGy M (d:Int) r6 v8 v9) (d:Int)).bind fun v10=>(ixO v10 (c:Int)).bind fun v11=>(zRp v11 p).bind fun r12=>
     (ixO (zGy M (d:Int) r6 v8 v9) (d:Int)).bind fun v13=>(zH (zOx p (M,(d:Int),(c:Int)) r12 v13) (zGy M (d:Int) r6 v8 v9,0)).bind fun r21=>
     (zH (zRq p (M,(d:Int),(c:Int)) r21) (r21,0)).bind fun r30=>(rng ((d:Int)+1)).bind fun v31=>(rng ((c:Int)+1)).bind fun v32=>dJ (.inl (r30,v31,v32)))) (dJ (.inr (M,(d:Int)))):=by
   unfold zRr;simp only
   have hx:ixO M (0:Int)=dJ (M.getD 0 []):=by have:=zT (v:=M) (i:=0) [] (by omega);exact this
   rw[dP (by omega),zK,hx];simp only[bs];rw[(h.row 0 (by omega)).1,yI hc,zK]
  rcases Jn d rows.length with hd|hd
  ·obtain⟨t,t1,t2,t3,t4,t5⟩:=zQO (M:=M) (d:=d) (c:=c) (m:=rows.length) (n:=n) hl mw (by omega) (fun i hi=>(h.row i hi).1) hc
   rw[e0,hl,yI hd,zK,t3];simp only[bs]
   by_cases bn:t=rows.length
   ·
    left;refine⟨(M,(d:Int),((c+1:Nat):Int)),?_,M,d,pv,rfl,⟨hl,h.row,mw,fun i hi=>by have:=h.lt i hi;omega,h.one,h.low,h.off,h.mono,fun k k1 k2 j hj=>?_,h.sp⟩,by omega⟩
    ·rw[zPB (by omega),zK,zF (by omega) (by omega),bs,cs]
    ·rcases Jn j c with g|g
     ·exact h.zero k k1 k2 j g
     ·rw[show j=c from by omega];exact t4 k k1 (by omega)
   ·have fe:t<rows.length:=by omega
    have gg:=t5 fe;have eT:=h.row t fe;have hrc:=eT.2 c hc;obtain⟨q,q1,q2,q3,q4⟩:=zFh (p:=p) (x:=ent M t c) hp (by simp only[ent]at gg ⊢;omega) (by simp only[ent];omega);left;have hM:M=mkR rows.length (fun i=>M.getD i []):=zSZ hl;obtain⟨F,hF⟩:∃F:Nat→List Int,∀i,F i=if i=t then M.getD d []else if i=d then M.getD t []else M.getD i []:=⟨_,fun _=>rfl⟩
    have bq:zGy M (d:Int) (t:Int) (M.getD t []) (M.getD d [])=mkR rows.length F:=by
     unfold zGy;rw[J8,J8]
     conv=>lhs;rw[hM]
     rw[zGR,zGR];exact zAd fun i hi=>by rw[hF,zA0 hd,zA0 fe]
    have pH:∀i,i<rows.length→Row p n (F i):=fun i hi=>by
     rw[hF];split
     ·exact h.row d hd
     ·split
      ·exact eT
      ·exact h.row i hi
    have hFd:F d=M.getD t []:=by
     rw[hF]
     by_cases e:d=t
     ·rw[if_pos e,e]
     ·rw[if_neg e,if_pos rfl]
    obtain⟨G,hG⟩:∃G:Nat→List Int,∀i,G i=if i=d then mkv n fun j=>(at0 (F d) j*q)%p else F i:=⟨_,fun _=>rfl⟩
    have hGd:G d=mkv n fun j=>(ent M t j*q)%p:=by rw[hG,if_pos rfl,hFd]
    have hGo:∀i,i≠d→G i=if i=t then M.getD d []else M.getD i []:=fun i eB=>by rw[hG,if_neg eB,hF];simp only[eB,if_false]
    have mO:zH (zOx p (M,(d:Int),(c:Int)) (q,dL) (M.getD t [])) (mkR rows.length F,0)=dJ (mkR rows.length G):=by
     rw[zNS hp (F:=F) hd (pH d hd) (by omega) ⟨q2,q3⟩ eT.1 rfl]
     congr 1
     exact zAd fun i _=>(hG i).symm
    have hF3:∀i,i<rows.length→Row p n (G i):=fun i hi=>by
     rw[hG];split
     ·refine⟨zU _ _,fun j hj=>?_⟩
      have e1:=Kv (at0 (F d) j*q) (show p≠0 by omega);have e2:=Ki (at0 (F d) j*q) (show 0<p by omega);rw[yC hj];omega
     ·exact pH i hi
    have gA:=zNT hp (c:=c) (F:=G) hd hc hF3 (by omega) (by omega) (r21:=mkR rows.length G) sJ (s:=(M,(d:Int),(c:Int))) rfl rfl;rw[zJD (by omega),zL,zT [] (by omega),zT [] (by omega)];simp only[bs];rw[bq,zK7 hd,hFd];simp only[bs];rw[yF (by rw[eT.1];exact hc)];simp only[bs];rw[show at0 (M.getD t []) c=ent M t c from rfl,q1];simp only[bs];rw[mO];simp only[bs];rw[gA];simp only[bs];rw[zF (by omega) (by omega),zF (by omega) (by omega)];simp only[bs,cs];have mr:=h.pivot hp hc hd t1 fe gg q4;refine⟨_,rfl,_,d+1,fun i=>if i=d then c else pv i,rfl,?_,by omega⟩;have e3:(mkR rows.length fun i=>if i=d then G d else uW p n (G i) (0-at0 (G i) c) (G d))=(mkR rows.length fun i=>if i=d then mkv n fun j=>(ent M t j*q)%p else uW p n (if i=t then M.getD d []else M.getD i []) (0-at0 (if i=t then M.getD d []else M.getD i []) c) (mkv n fun j=>(ent M t j*q)%p)):=by
     refine zAd fun i hi=>?_
     rw[hGd]
     by_cases eB:i=d
     ·rw[if_pos eB,if_pos eB]
     ·rw[if_neg eB,if_neg eB,hGo i eB]
    rw[e3];exact mr
  ·
   refine .inr ⟨(M,(d:Int)),?_,M,d,pv,rfl,by omega,h.take t6 fun k hk f9=>by omega⟩;rw[e0,dO (by omega),zL]
 ·
  obtain⟨M,d,pv,rfl,h,t6⟩:=hI;have hl:=h.len;have mw:=h.dm;refine⟨(M,(d:Int)),?_,M,d,pv,rfl,by omega,h.take t6 fun k hk f9 j hj=>h.zero k hk f9 j hj⟩;unfold zRr;simp only
  by_cases h0:rows.length=0
  ·rw[dO (by omega),zL]
  ·have hx:ixO M (0:Int)=dJ (M.getD 0 []):=by
    have:=zT (v:=M) (i:=0) [] (by omega);exact this
   rw[dP (by omega),zK,hx];simp only[bs];rw[(h.row 0 (by omega)).1,vR,zL]
end
end Go.Pl

namespace Go.Pl
open Go Go.Ab Go.Wk Go.Pc
theorem zJE{v:List Int}{n:Nat}(hl:v.length=n)(hn:n≤1000000):∃k:Nat,k≤n∧f_R v=dJ (k:Int)∧(∀j,j<k→at0 v j=0)∧(k<n→at0 v k≠0):=by
 unfold f_R;rcases chk (body:=zIW v) n 0 (Kf _) (fun i=>at0 v i=0) (fun i=>(i:Int)) (fun i _ hi _=>by
   unfold zIW;rw[hl,yI hi,zK,yF (by omega),bs]
   by_cases h:at0 v i=0
   ·rw[zAQ h,zL,zF (by omega) (by omega),bs,cs];grind
   grind) (by
   unfold zIW
   grind)with⟨h1,h2⟩|⟨i,_,hi,h1,h2⟩
 ·grind
 ·rw[show((0:Nat):Int)=0 from rfl]at h1
  rw[h1,bs];obtain⟨k,⟨hk1,f9⟩,eQ⟩:=zEe (p:=fun k=>k<n∧at0 v k≠0) ⟨i,hi,h2⟩;have hz:∀j,j<k→at0 v j=0:=by grind
  have hki:k=i:=by
   have fp:∀q,q≤k→zH (zIW v) ((k-q:Nat):Int)=dJ (.inr (k:Int)):=by
    intro q
    induction q with
    |zero=>
     intro _;rw[yQ];have e:zIW v ((k-0:Nat):Int)=dJ (.inr (.inr (k:Int))):=by unfold zIW;rw[show k-0=k from rfl,hl,yI hk1,zK,yF (by omega),bs,zA7 f9,zK]
     rw[e]
    |succ q ih=>
     intro hq;rw[yQ];have e:zIW v ((k-(q+1):Nat):Int)=dJ (.inl ((k-q:Nat):Int)):=by unfold zIW;rw[hl,yI (by omega),zK,yF (by omega),bs,zAQ (hz _ (by omega)),zL,zF (by omega) (by omega),bs,cs,show k-(q+1)+1=k-q from by omega]
     grind
   have:=fp k (Jk _)
   grind
  grind
theorem zK8{v:List Int}{n k:Nat}(hl:v.length=n)(hn:n≤1000000)(hk:k<n)(h0:∀j,j<k→at0 v j=0)(h1:at0 v k≠0):f_R v=dJ (k:Int):=by grind[zJE]
theorem zTd{p x:Int}(hp:Prime p)(h0:1≤x)(h1:x≤p-1):∃r,zXt x p=dJ r∧0≤r∧r≤p-1∧(x*r)%p=1:=by
 have h7:=hp.pos;have hx:∃k:Nat,1≤k∧(k:Int)<p∧(x*(k:Int))%p=1:=by
  obtain⟨r,_,r1,r2,r3⟩:=zFh hp h0 h1;refine⟨r.toNat,?_,by omega,by grind⟩;rcases Int.lt_or_eq_of_le r1 with g|g
  ·omega
  ·rw[←g]at r3;simp at r3
 obtain⟨k,⟨k1,k2,k3⟩,eQ⟩:=zEe hx;have body:∀i:Nat,1≤i→(i:Int)<p→zNg x p (i:Int)=cond ((x*(i:Int))%p==1) (dJ (.inr (.inr (i:Int)))) (dJ (.inl ((i+1:Nat):Int))):=fun i hi hip=>by
  have a3:=Hq (show 0≤x by omega) (show 0≤(i:Int)by omega);have a4:=zC1 hp (k:=(i:Int)) (by omega) (b:=x) ⟨by omega,h1⟩;rw[Hm]at a4;unfold zNg;rw[dP hip,zK,zMz hp (by omega) (by omega),bs,K1 (by omega) (by omega),zF (by omega) (by omega),bs];unfold xR;rw[if_neg (by omega),bs,Lf a3]
  by_cases hh:(x*(i:Int))%p=1
  ·grind
  ·rw[zJD hh,zL,zL,zF (by omega) (by omega),bs,cs]
 have fp:∀q,q+1≤k→zH (zNg x p) ((k-q:Nat):Int)=dJ (.inr (k:Int)):=by
  intro q
  induction q with
  |zero=>
   intro _;rw[yQ,show k-0=k from rfl,body k k1 k2,zPB k3,zK]
  |succ q ih=>
   intro hq;have gg:(x*((k-(q+1):Nat):Int))%p≠1:=by grind
   rw[yQ,body _ (by omega) (by omega),zJD gg,zL,show k-(q+1)+1=k-q from by omega]
   grind
 have:=fp (k-1) (by omega);rw[show k-(k-1)=1 from by omega,show((1:Nat):Int)=1 from rfl]at this
 grind[zXt]
section
variable {p:Int} (hp:Prime p) {n:Nat} (hn:n≤100000)
 include hp hn
theorem yAl{r s:List Int}(hr:Row p n r):uW p n r p s=r:=by
 have _:=hp;have _:=hn
 conv=>rhs;rw[vC hr.1]
 refine yA fun j hj=>?_
 have:=hr.2 j hj;rw[Hs];exact K1 this.1 (by omega)
def cl(p:Int)(n:Nat)(out:Mx)(pv:Nat→Nat)(v:List Int):Nat→List Int
 |0=>v
 |i+1=>uW p n (cl p n out pv v i) (p-at0 (cl p n out pv v i) (pv i)) (out.getD i [])
variable {out:Mx}{pv:Nat→Nat} (h:Red p n out pv) {v:List Int} (hv:Row p n v)
 include h hv
theorem zTe:∀i,Row p n (cl p n out pv v i):=by
 have _:=hn;have _:=h;intro i;cases i with
 |zero=>exact hv
 |succ i=>exact zBp hp
theorem yAm:∀i,i≤out.length→ ∀k,k<i→at0 (cl p n out pv v i) (pv k)=0:=by
 have _:=hn;have _:=hv;have h7:=hp.pos;intro i
 induction i with
 |zero=>simp
 |succ i ih=>
  intro hi k hk;have gF:=h.lt k (by omega);rw[cl,uW,yC gF];rcases Jn k i with g|g
  ·have h1:=ih (by omega) k g
   have h2:=h.off k i (by omega) (by omega) (by omega)
   simp_all
  ·have hki:k=i:=by omega
   subst hki;have h2:=h.one k (by omega);simp only[ent]at h2;rw[h2,Ln,show at0 (cl p n out pv v k) (pv k)+(p-at0 (cl p n out pv v k) (pv k))=p from by omega,Int.emod_self]
theorem zW9:∀i,i≤out.length→ ∃cf:Nat→Int,∀j,j<n→at0 (cl p n out pv v i) j%p=(at0 v j+S out.length fun k=>cf k*ent out k j)%p:=by
 have _:=hp;have _:=h;have _:=hv;have _:=hn;intro i
 induction i with
 |zero=>intro _;exact⟨fun _=>0,fun j _=>by rw[xL (g:=fun _=>0) (fun i _=>by simp),qK,Lu];rfl⟩
 |succ i ih=>
  intro hi;obtain⟨cf,c7⟩:=ih (by omega);refine⟨fun k=>cf k+(if k=i then p-at0 (cl p n out pv v i) (pv i)else 0),fun j hj=>?_⟩;have e1:(S out.length fun k=>(cf k+(if k=i then p-at0 (cl p n out pv v i) (pv i)else 0))*ent out k j)=(S out.length fun k=>cf k*ent out k j)+(p-at0 (cl p n out pv v i) (pv i))*ent out i j:=by rw[xL (g:=fun k=>cf k*ent out k j+(if k=i then p-at0 (cl p n out pv v i) (pv i)else 0)*ent out k j) (by grind),zDp,zAR (f:=fun k=>(if k=i then p-at0 (cl p n out pv v i) (pv i)else 0)*ent out k j) (k:=i) (by omega) (by grind)];simp
  rw[e1,cl,uW,yC hj,Jz,←Int.add_assoc,K9,c7 j hj,←K9]
theorem zNU(hm:out.length≤100000):zXs p out v=dJ (cl p n out pv v out.length):=by
 have h7:=hp.pos;unfold zXs;rw[xX (by rw[hv.1];omega),bs];have:=zM (body:=zNf p out) (r:=cl p n out pv v out.length) (fun i=>(cl p n out pv v i,(i:Int))) out.length (fun i hi=>by
  have hr:=zTe hp hn h hv i;have ho:=h.row i hi;have gF:=h.lt i hi;have gm:=h.one i hi;have fm:=h.low i hi;simp only[ent]at gm fm;have he:=hr.2 (pv i) gF;unfold zNf;simp only
  rw[yI hi,zK,zT [] hi,bs,zK8 ho.1 (by omega) gF fm (by omega),bs,hr.1,yI gF,zK,yF (by rw[hr.1];exact gF),bs]
  by_cases hz:at0 (cl p n out pv v i) (pv i)=0
  ·rw[zAQ hz,zL,zF (by omega) (by omega),bs,cs,cl,hz,Jaf,yAl hp hn hr]
  ·rw[zA7 hz,zK,bs,zF (by omega) (by omega),bs,bs,uQ hp hr ho (by omega) (by omega),bs,zF (by omega) (by omega),bs,cs]
   rfl) (by
  unfold zNf;simp)
 rw[show((0:Nat):Int)=0 from rfl]at this
 grind[cl]
end
end Go.Pl

namespace Go.Pl
open Go Go.Ab Go.Wk Go.Pc
section
variable {p:Int} (hp:Prime p) {n:Nat}{out:Mx}{pv:Nat→Nat} (h:Red p n out pv) {u:List Int}{k q:Nat} (hu:Row p n u) (hk:k<n) (u1:at0 u k=1) (ul:∀j,j<k→at0 u j=0) (up:∀i,i<out.length→at0 u (pv i)=0) (hq:q≤out.length) (q1:∀i,i<q→pv i<k) (q2:∀i,q≤i→i<out.length→k<pv i)
def oth(p:Int)(n:Nat)(out:Mx)(u:List Int)(k i:Nat):List Int:=uW p n (out.getD i []) (p-at0 (out.getD i []) k) u
def sN(p:Int)(n:Nat)(out:Mx)(u:List Int)(k q i:Nat):List Int:=if i<q then oth p n out u k i else if i=q then u else oth p n out u k (i-1)
def zWA(pv:Nat→Nat)(k q i:Nat):Nat:=if i<q then pv i else if i=q then k else pv (i-1)
 include hp h hu hk u1 ul up hq q1 q2
theorem zNV{i j:Nat}(hj:j<n):at0 (oth p n out u k i) j=(at0 (out.getD i []) j-at0 (out.getD i []) k*at0 u j)%p:=by have _:=hp;have _:=h;have _:=hu;have _:=hk;have _:=u1;have _:=ul;have _:=up;have _:=hq;have _:=q1;have _:=q2;rw[oth,uW,yC hj,show at0 (out.getD i []) j+(p-at0 (out.getD i []) k)*at0 u j=at0 (out.getD i []) j-at0 (out.getD i []) k*at0 u j+p*at0 u j from by grind,Hs]
theorem zFi{i j:Nat}(hi:i<out.length)(hj:j<n)(hz:at0 (out.getD i []) k=0∨at0 u j=0):at0 (oth p n out u k i) j=ent out i j:=by
 rw[zNV hp h hu hk u1 ul up hq q1 q2 hj];have:=(h.row i hi).2 j hj;have e:at0 (out.getD i []) k*at0 u j=0:=by grind
 rw[e,Jaf];exact K1 this.1 (by omega)
theorem yCD{i:Nat}:at0 (oth p n out u k i) k=0:=by rw[zNV hp h hu hk u1 ul up hq q1 q2 hk,u1,Ln,Int.sub_self];rfl
theorem zWB{i j:Nat}(hi:i<out.length)(hj:j<pv i)(gg:pv i≠k):at0 (oth p n out u k i) j=0:=by
 have gF:=h.lt i hi;rcases Jn (pv i) k with g|g
 ·rw[zFi hp h hu hk u1 ul up hq q1 q2 hi (by omega) (by grind)];exact h.low i hi j hj
 ·have:=h.low i hi k (by omega)
  rw[zFi hp h hu hk u1 ul up hq q1 q2 hi (by omega) (.inl this)];exact h.low i hi j hj
theorem yCE{i:Nat}(hi:i<out.length):pv i≠k:=by have _:=hp;have _:=h;have _:=hu;have _:=hk;have _:=ul;have _:=hq;have _:=q1;have _:=q2;grind
theorem zJF{i:Nat}(hi:i<out.length+1):(i=q∧sN p n out u k q i=u∧zWA pv k q i=k)∨ ∃a,a<out.length∧(i<q∧a=i∨q<i∧i=a+1)∧sN p n out u k q i=oth p n out u k a∧zWA pv k q i=pv a:=by
 have _:=hp;have _:=h;have _:=hu;have _:=hk;have _:=u1;have _:=ul;have _:=up;have _:=q1;have _:=q2;unfold sN zWA
 grind
theorem zNW:Red p n (mkR (out.length+1) (sN p n out u k q)) (zWA pv k q):=by
 have nc:=fun i hi=>zJF hp h hu hk u1 ul up hq q1 q2 (i:=i) hi
 have pn:=fun i hi=>yCE hp h hu hk u1 ul up hq q1 q2 (i:=i) hi
 refine⟨fun i hi=>?_,fun i hi=>?_,fun i hi=>?_,fun i hi j hj=>?_,fun i j hi hj gg=>?_,fun i j eg hj=>?_⟩<;>rw[sJ]at*
 ·rw[zA0 hi]
  rcases nc i hi with⟨_,e,_⟩|⟨a,_,_,e,_⟩<;>rw[e]
  ·exact hu
  ·exact zBp hp
 ·rcases nc i hi with⟨_,_,e⟩|⟨a,ha,_,_,e⟩<;>rw[e]
  ·exact hk
  ·exact h.lt a ha
 ·rw[zFg hi]
  rcases nc i hi with⟨_,e1,e2⟩|⟨a,ha,_,e1,e2⟩<;>rw[e1,e2]
  ·exact u1
  ·rw[zFi hp h hu hk u1 ul up hq q1 q2 ha (h.lt a ha) (.inr (up a ha))];exact h.one a ha
 ·rw[zFg hi]
  rcases nc i hi with⟨_,e1,e2⟩|⟨a,ha,_,e1,e2⟩<;>rw[e2]at hj<;>rw[e1]
  ·grind
  ·exact zWB hp h hu hk u1 ul up hq q1 q2 ha hj (pn a ha)
 ·rw[zFg hj]
  rcases nc i hi with⟨g1,_,e2⟩|⟨a,ha,ga,_,e2⟩<;>rw[e2]<;>rcases nc j hj with⟨g3,e3,_⟩|⟨b,hb,gb,e3,_⟩<;>rw[e3]
  ·omega
  ·exact yCD hp h hu hk u1 ul up hq q1 q2
  ·grind
  ·rw[zFi hp h hu hk u1 ul up hq q1 q2 hb (h.lt a ha) (.inr (up a ha))]
   exact h.off a b ha hb (by omega)
 ·rcases nc i (by omega)with⟨g1,_,e2⟩|⟨a,ha,ga,_,e2⟩<;>rw[e2]<;>rcases nc j hj with⟨g3,_,e4⟩|⟨b,hb,gb,_,e4⟩<;>rw[e4]
  ·omega
  ·grind
  ·grind
  ·exact h.mono a b (by omega) hb
theorem zQP:(∀i,i<out.length+1→Sp p n (out++[u]) (sN p n out u k q i))∧(∀i,i<out.length→Sp p n (mkR (out.length+1) (sN p n out u k q)) (out.getD i []))∧Sp p n (mkR (out.length+1) (sN p n out u k q)) u:=by
 have eS:Sp p n (out++[u]) u:=by
  have:=qL (p:=p) (n:=n) (R:=out++[u]) (i:=out.length) (by simp)
  grind
 have ca:∀i,i<out.length→Sp p n (out++[u]) (out.getD i []):=fun i hi=>by
  have:=qL (p:=p) (n:=n) (R:=out++[u]) (i:=i) (by simp;omega)
  grind
 have hoth:∀i,i<out.length→Sp p n (out++[u]) (oth p n out u k i):=fun i hi=>
  zBK (k:=p-at0 (out.getD i []) k) (ca i hi) eS (by grind[oth,uW,yC,Jz])
 have br:Sp p n (mkR (out.length+1) (sN p n out u k q)) u:=by have:=zC3 (p:=p) (n:=n) (m:=out.length+1) (F:=sN p n out u k q) (i:=q) (by omega);rw[show sN p n out u k q q=u from by unfold sN;simp]at this;exact this
 refine⟨fun i hi=>?_,fun i hi=>?_,br⟩
 ·rcases zJF hp h hu hk u1 ul up hq q1 q2 hi with⟨_,e,_⟩|⟨a,ha,_,e,_⟩<;>rw[e]
  all_goals grind
 ·have fx:∃b,b<out.length+1∧sN p n out u k q b=oth p n out u k i:=by
   rcases Jn i q with g|g
   ·exact⟨i,by omega,by unfold sN;grind⟩
   ·exact⟨i+1,by omega,by unfold sN;grind⟩
  obtain⟨b,hb,e⟩:=fx;have h1:=zC3 (p:=p) (n:=n) (m:=out.length+1) (F:=sN p n out u k q) hb;rw[e]at h1;refine zBK (k:=at0 (out.getD i []) k) h1 br fun j hj=>?_
  rw[zNV hp h hu hk u1 ul up hq q1 q2 hj,K9,Jz,←K9,show at0 (out.getD i []) j-at0 (out.getD i []) k*at0 u j+at0 (out.getD i []) k*at0 u j=at0 (out.getD i []) j from by omega]
theorem zM1(hn:n≤100000)(hm:out.length≤100000){x:Int}:
  ((zH (zIX p (out,x) (k:Int) u) ([],dM,0)).bind fun r32=>cond (!r32.2) ((zZ r32.1 [u]).bind fun v33=>dJ v33) (dJ r32.1))=dJ (mkR (out.length+1) (sN p n out u k q)):=by
 have _:=u1;have _:=ul;have _:=up;have h7:=hp.pos;have ho:∀i,i<out.length→f_H p (out.getD i []) (p-at0 (out.getD i []) k) u=dJ (oth p n out u k i)∧ixO (out.getD i []) (k:Int)=dJ (at0 (out.getD i []) k)∧0≤at0 (out.getD i []) k∧at0 (out.getD i []) k≤p-1∧f_R (out.getD i [])=dJ (pv i:Int):=fun i hi=>by have hr:=h.row i hi;have f9:=hr.2 k hk;have gm:=h.one i hi;have fm:=h.low i hi;simp only[ent]at gm fm;exact⟨by rw[uQ hp hr hu (by omega) (by omega)];rfl,yF (by rw[hr.1];exact hk),f9.1,f9.2,zK8 hr.1 (by omega) (h.lt i hi) fm (by omega)⟩
 have hsn:∀{m:Nat}{F:Nat→List Int},mkR m F++[F m]=mkR (m+1) F:=by grind[mkR,Lo]
 have:=zM (body:=zIX p (out,x) (k:Int) u) (r:=(if out.length≤q then(mkR out.length (sN p n out u k q),dM)else(mkR (out.length+1) (sN p n out u k q),dL)))
  (fun j=>if j≤q then(mkR j (sN p n out u k q),dM,(j:Int))else(mkR (j+1) (sN p n out u k q),dL,(j:Int))) out.length (fun j hj=>by
   obtain⟨a1,a2,a3,a4,a5⟩:=ho j hj;have aF:rng (p-at0 (out.getD j []) k)=dJ (p-at0 (out.getD j []) k):=by grind[zF]
   rcases Qo j q with g|g|g
   ·have hpj:=q1 j g
    rw[if_pos (by omega),if_pos (by omega)];unfold zIX;simp only
    rw[yI hj,zK,Jy,zK,zT [] hj];simp only[bs,a5];rw[dO (by omega),zL,a2];simp only[bs,aF,a1];rw[zP (by rw[sJ];simp;omega),bs,zF (by omega) (by omega),bs,cs];have:sN p n out u k q j=oth p n out u k j:=by unfold sN;grind
    grind
   ·subst g
    have hpj:=q2 j (Jk _) hj;rw[if_pos (by omega),if_neg (by omega)];unfold zIX;simp only
    rw[yI hj,zK,Jy,zK,zT [] hj];simp only[bs,a5];rw[dP (by omega),zK,zP (by rw[sJ];simp;omega),a2];simp only[bs,aF,a1];have e1:sN p n out u k j j=u:=by unfold sN;simp
    have e2:sN p n out u k j (j+1)=oth p n out u k j:=by unfold sN;grind
    have e3:mkR j (sN p n out u k j)++[u]=mkR (j+1) (sN p n out u k j):=by grind
    rw[e3,zP (by rw[sJ];simp;omega),bs,zF (by omega) (by omega),bs,cs,←e2,hsn]
   ·rw[if_neg (by omega),if_neg (by omega)]
    unfold zIX;simp only
    rw[yI hj,zK,Ja,zL,zT [] hj];simp only[bs,a2,aF,a1];have e2:sN p n out u k q (j+1)=oth p n out u k j:=by unfold sN;rw[if_neg (by omega),if_neg (by omega)];rfl
    rw[zP (by rw[sJ];simp;omega),bs,zF (by omega) (by omega),bs,cs,←e2,hsn]) (by
   by_cases g:out.length≤q
   ·rw[if_pos g,if_pos g]
    unfold zIX;simp
   ·rw[if_neg g,if_neg g]
    unfold zIX;simp)
 rw[if_pos (Kf _),show((0:Nat):Int)=0 from rfl,show mkR 0 (sN p n out u k q)=[]from rfl]at this;rw[this,bs]
 by_cases g:out.length≤q
 ·have e1:sN p n out u k q out.length=u:=by unfold sN;grind
  rw[if_pos g];simp only
  rw[Jy,zK,zP (by rw[sJ];simp;omega),bs]
  grind
 grind
end
end Go.Pl

namespace Go.Pl
open Go Go.Ab Go.Wk Go.Pc
theorem zNX{p:Int}{n:Nat}{R out:Mx}{cf:Nat→Int}(ho:∀i,i<out.length→Sp p n R (out.getD i [])){u:List Int}(hu:∀j,j<n→at0 u j%p=(S out.length fun k=>cf k*ent out k j)%p):Sp p n R u:=
 zAB ho ⟨cf,by grind⟩
theorem Red.len_le{p:Int}{n:Nat}{R:Mx}{pv:Nat→Nat}(h:Red p n R pv):R.length≤n:=by
 have key:∀i,i<R.length→i≤pv i:=by
  intro i
  induction i with
  |zero=>simp
  |succ i ih=>
   intro hi;have h1:=ih (by omega);have h2:=h.mono i (i+1) (by omega) hi;omega
 rcases Jaz R.length with g|g
 ·omega
 ·have h1:=key (R.length-1) (by omega)
  have h2:=h.lt (R.length-1) (by omega);omega
theorem zDK{xs:Mx}{v:List Int}{i:Nat}(h:i<xs.length):(xs++[v]).getD i []=xs.getD i []:=by grind
theorem zDL{xs:Mx}{v:List Int}:(xs++[v]).getD xs.length []=v:=by simp
section
variable {p:Int} (hp:Prime p) {n:Nat} (hn:n≤100000)
 include hp hn
theorem zNY{w:List Int}(hw:Row p n w){r:Int}(h0:0≤r)(h1:r≤p-1):zXu p r w=dJ (mkv n fun j=>(at0 w j*r)%p):=by
 have h7:=hp.pos;unfold zXu;rw[hw.1,yK (by omega),bs,uQ hp (zIe (by omega)) hw (by omega) (by omega),bs]
 congr 1
 refine yA fun j hj=>?_
 grind
variable {rows:Mx} (hm:rows.length≤600000) (hr:∀i,i<rows.length→Row p n (rows.getD i []))
 include hm hr
theorem zFj:∃R pv,f_E p rows=dJ R∧(Red p n R pv∧R.length≤rows.length)∧kJ p n R rows:=by
 have h7:=hp.pos;unfold f_E;have main:=uK (body:=zRs p rows) (s:=([],0)) (Q:=fun R=> ∃pv,(Red p n R pv∧R.length≤rows.length)∧kJ p n R rows)
  (fun i s=> ∃(out:Mx)(pv:Nat→Nat),s=(out,(i:Int))∧Red p n out pv∧kJ p n out (rows.take i)∧out.length≤i∧i≤rows.length) rows.length (fun i s hi hI=>?_) (fun s hI=>?_) ⟨[],fun _=>0,rfl,Red.empty,by rw[Km];exact kJ.refl,Kf _,Kf _⟩
 ·obtain⟨R,h1,pv,h2,h3⟩:=main
  rw[h1,bs];exact⟨R,pv,rfl,h2,h3⟩
 ·obtain⟨out,pv,rfl,h,hs,hl,_⟩:=hI
  have hon:out.length≤n:=h.len_le;left;have hv:=hr i hi;have hw:=zTe hp hn h hv out.length;have gA:=zNU hp hn h hv (by omega);have hpz:=yAm hp hn h hv out.length (Jk _);obtain⟨cf,c7⟩:=zW9 hp hn h hv out.length (Jk _);obtain⟨k,k1,k2,k3,k4⟩:=zJE hw.1 (by omega);have ex:rows.take (i+1)=rows.take i++[rows.getD i []]:=by rw[Kc hi,J3,J7 hi];rfl
  have mN:(rows.take i).length=i:=by rw[L4];omega
  have fd:∀u,Sp p n (rows.take i) u→Sp p n (rows.take (i+1)) u:=fun u hu=>zAB (fun a ha=>by have:=qL (p:=p) (n:=n) (R:=rows.take (i+1)) (i:=a) (by rw[ex,J5];omega);rw[ex,zDK ha,←ex]at this;exact this) hu
  have p5:Sp p n (rows.take (i+1)) (rows.getD i []):=by
   have:=qL (p:=p) (n:=n) (R:=rows.take (i+1)) (i:=i) (by rw[ex,J5,mN];simp);rw[ex]at this;have e:(rows.take i++[rows.getD i []]).getD i []=rows.getD i []:=by have:=zDL (xs:=rows.take i) (v:=rows.getD i []);rw[mN]at this;exact this
   rw[e,←ex]at this;exact this
  by_cases p8:k=n
  ·
   refine⟨(out,((i+1:Nat):Int)),?_,out,pv,rfl,h,⟨fun a ha=>fd _ (hs.1 a ha),fun a ha=>?_⟩,by omega,by omega⟩
   ·unfold zRs
    simp only
    rw[yI hi,zK,zT [] hi];simp only[bs,gA,k2];rw[hw.1,zPB (by omega),zK,zF (by omega) (by omega),bs,cs]
   ·rw[ex,J5,mN,Jm]at ha
    rw[ex];rcases Jn a i with g|g
    ·rw[zDK (by omega)];exact hs.2 a (by omega)
    ·have:a=i:=by omega
     subst this;have e:(rows.take a++[rows.getD a []]).getD a []=rows.getD a []:=by have:=zDL (xs:=rows.take a) (v:=rows.getD a []);rw[mN]at this;exact this
     rw[e];refine zNX (out:=out) (cf:=fun q=> -1*cf q) (fun a ha=>qL ha) fun j hj=>?_
     have h1:=c7 j hj;rw[k3 j (by omega)]at h1;rw[xL (g:=fun q=> -1*(cf q*ent out q j)) (fun q _=>by rw[Hh]),zDq];have h2:(at0 (rows.getD a []) j+S out.length fun q=>cf q*ent out q j)%p=0:=by rw[←h1];rfl
     rw[show at0 (rows.getD a []) j=(at0 (rows.getD a []) j+S out.length fun q=>cf q*ent out q j)+ -1*(S out.length fun q=>cf q*ent out q j)from by omega,K9,h2,Lh,Jz]
  ·have hk:k<n:=by omega
   have hwk:=hw.2 k hk;have gg:=k4 hk;obtain⟨r,r1,r2,r3,r4⟩:=zTd hp (x:=at0 (cl p n out pv (rows.getD i []) out.length) k) (by omega) (by omega);have mO:=zNY hp hn hw r2 r3;have hu:Row p n (mkv n fun j=>(at0 (cl p n out pv (rows.getD i []) out.length) j*r)%p):=⟨zU _ _,fun j hj=>by have e1:=Kv (at0 (cl p n out pv (rows.getD i []) out.length) j*r) (show p≠0 by omega);have e2:=Ki (at0 (cl p n out pv (rows.getD i []) out.length) j*r) (show 0<p by omega);rw[yC hj];omega⟩
   have ua:∀j,j<n→at0 (mkv n fun j=>(at0 (cl p n out pv (rows.getD i []) out.length) j*r)%p) j=(at0 (cl p n out pv (rows.getD i []) out.length) j*r)%p:=fun j hj=>yC hj
   generalize mkv n (fun j=>(at0 (cl p n out pv (rows.getD i []) out.length) j*r)%p)=u at mO hu ua
   have u1:at0 u k=1:=by rw[ua k hk];exact r4
   have ul:∀j,j<k→at0 u j=0:=fun j hj=>by rw[ua j (by omega),k3 j hj];simp
   have up:∀a,a<out.length→at0 u (pv a)=0:=fun a ha=>by rw[ua _ (h.lt a ha),hpz a ha];simp
   obtain⟨q,⟨hq,aQ⟩,eQ⟩:=zEe (p:=fun q=>q≤out.length∧(q<out.length→k<pv q)) ⟨out.length,Jk _,fun g=>by omega⟩;have q1:∀a,a<q→pv a<k:=fun a ha=>by
    have h1:¬(k<pv a):=fun g=>eQ a ha ⟨by omega,fun _=>g⟩
    have h2:pv a≠k:=fun e=>by have:=up a (by omega);rw[e,u1]at this;cases this
    omega
   have q2:∀a,q≤a→a<out.length→k<pv a:=fun a ha ha2=>by
    have h1:=aQ (by omega);rcases Jn q a with g|g
    ·have:=h.mono q a g ha2;omega
    ·rw[show a=q from by omega];exact h1
   have eR:=zM1 hp h hu hk u1 ul up hq q1 q2 hn (by omega) (x:=(i:Int));have aH:=zNW hp h hu hk u1 ul up hq q1 q2;obtain⟨s1,s2,s3⟩:=zQP hp h hu hk u1 ul up hq q1 q2;refine⟨(mkR (out.length+1) (sN p n out u k q),((i+1:Nat):Int)),?_,_,_,rfl,aH,⟨fun a ha=>?_,fun a ha=>?_⟩,by rw[sJ];omega,by omega⟩
   ·unfold zRs
    simp only
    rw[yI hi,zK,zT [] hi];simp only[bs,gA,k2];rw[hw.1,zJD (by omega),zL,yF (by rw[hw.1];exact hk)];simp only[bs,r1,mO];cases gT:zH (zIX p (out,(i:Int)) (k:Int) u) ([],dM,0)with
    |none=>rw[gT]at eR;cases eR
    |some r32=>
     rw[gT,bs]at eR;simp only[bs];obtain⟨a1,a2⟩:=r32;cases a2 with
     |true=>
      simp only[Ja,zL]at eR ⊢
      rw[zF (by omega) (by omega),bs,cs,Ll.inj eR]
     |false=>
      simp only[Jy,zK]at eR ⊢
      cases hap:zZ a1 [u]with
      |none=>rw[hap]at eR;cases eR
      |some v33=>
       rw[hap,bs]at eR;simp only[bs];rw[zF (by omega) (by omega),bs,cs,Ll.inj eR]
   ·rw[sJ]at ha
    rw[zA0 ha];refine zAB (fun b hb=>?_) (s1 a ha);rw[J5,Jm]at hb;rcases Jn b out.length with g|g
    ·rw[zDK g];exact fd _ (hs.1 b g)
    ·rw[show b=out.length from by omega,zDL]
     have ao:Sp p n (rows.take (i+1)) (cl p n out pv (rows.getD i []) out.length):=by
      have pu:Sp p n (rows.take (i+1)) (mkv n fun j=>S out.length fun k=>cf k*ent out k j):=zNX (out:=out) (cf:=cf) (fun b hb=>fd _ (hs.1 b hb)) fun j hj=>by rw[yC hj]
      refine zBK (k:=1) p5 pu fun j hj=>?_
      rw[c7 j hj,yC hj,Ja3]
     refine zBK (k:=r) (zFf (u:=[]) fun j _=>by simp[at0]) ao fun j hj=>?_
     rw[ua j hj,Jz,show at0 ([]:List Int) j=0 from by simp[at0],Lh,Hm]
   ·rw[ex,J5,mN,Jm]at ha
    rw[ex];rcases Jn a i with g|g
    ·rw[zDK (by omega)]
     exact zAB s2 (hs.2 a (by omega))
    ·have hai:a=i:=by omega
     subst hai;have e:(rows.take a++[rows.getD a []]).getD a []=rows.getD a []:=by have:=zDL (xs:=rows.take a) (v:=rows.getD a []);rw[mN]at this;exact this
     rw[e];have ao:Sp p n (mkR (out.length+1) (sN p n out u k q)) (cl p n out pv (rows.getD a []) out.length):=by
      refine zBK (k:=at0 (cl p n out pv (rows.getD a []) out.length) k) (zFf (u:=[]) fun j _=>by simp[at0]) s3 fun j hj=>?_
      rw[ua j hj,show at0 ([]:List Int) j=0 from by simp[at0],Lh];rw[Jv,Jz,←Jv,←Hh,Hm (at0 (cl p n out pv (rows.getD a []) out.length) k),Hh,Jv,r4,Ln,Jz]
     have pu:Sp p n (mkR (out.length+1) (sN p n out u k q)) (mkv n fun j=>S out.length fun k=>cf k*ent out k j):=zNX (out:=out) (cf:=cf) s2 fun j hj=>by rw[yC hj]
     refine zBK (k:=-1) ao pu fun j hj=>?_
     rw[yC hj,K9,c7 j hj,←K9]
     congr 1;omega
 ·obtain⟨out,pv,rfl,h,hs,hl,_⟩:=hI
  refine⟨out,?_,pv,⟨h,hl⟩,by rw[List.take_length]at hs;exact hs⟩;unfold zRs;simp only
  rw[vR,zL]
theorem zM2:∃R pv,f_E p rows=dJ R∧Red p n R pv∧kJ p n R rows:=by grind[zFj]
theorem zIf{R:Mx}{pv:Nat→Nat}(h:Red p n R pv)(hs:kJ p n R rows):R.length≤rows.length:=by have h7:=hp.pos;obtain⟨R',pv',_,h2,h3⟩:=zFj hp hn hm hr;rw[h.unique (by omega) h2.1 (hs.trans h3.symm)];exact h2.2
theorem zDv:∃R pv,f_E p rows=dJ R∧f_r p rows=dJ R∧Red p n R pv∧kJ p n R rows:=by
 have h7:=hp.pos;obtain⟨R,pv,h1,h2,h3⟩:=zM2 hp hn hm hr;obtain⟨R',pv',g1,g2,g3⟩:=zM0 hp hn hm hr;have e:=h2.unique (by omega) g2 (h3.trans g3.symm)
 grind
end
end Go.Pl

namespace Go.Pl
open Go Go.Ab Go.Wk Go.Pc
theorem tI{β:Type}{body:List β×Int→Option ((List β×Int)⊕List β)}(n:Nat)(F:Nat→β)(h:∀i acc,i<n→acc.length=i→body (acc,(i:Int))=dJ (.inl (acc++[F i],((i+1:Nat):Int))))(he:∀acc,body (acc,(n:Int))=dJ (.inr acc)):
  zH body ([],0)=dJ ((Jh n).map F):=by
 have:=zM (body:=body) (r:=(Jh n).map F) (fun i=>((Jh i).map F,(i:Int))) n (by grind[Lo]) (he _);exact this
def uE(D k:Nat):List Int:=mkv D fun j=>if j=k then 1 else 0
theorem zAI{D k:Nat}(hk:k<D)(hD:D≤1000000):zLf (D:Int) (k:Int)=dJ (uE D k):=by grind[zLf,yK,yF,vX,qX,uE]
end Go.Pl

namespace Go.Pl
open Go Go.Ab Go.Wk Go.Pc
abbrev gl{β:Type}(m:Nat)(F:Nat→β):List β:=(Jh m).map F
theorem yN{β:Type}{m:Nat}{F:Nat→β}:(gl m F).length=m:=by simp[gl]
theorem zAC{β:Type}{m:Nat}{F:Nat→β}{i:Nat}(h:i<m):ixO (gl m F) (i:Int)=dJ (F i):=by rw[zAy (by grind)];simp[gl]
theorem kK{β:Type}{m:Nat}{F G:Nat→β}(h:∀i,i<m→F i=G i):gl m F=gl m G:=by grind[U4]
theorem zE5{β:Type}{m:Nat}{F:Nat→β}{i:Nat}{a:β}:(gl m F).set i a=gl m (fun k=>if k=i then a else F k):=by
 apply Kl
 grind
theorem xV{β:Type}{m:Nat}{F:Nat→β}:gl m F++[F m]=gl (m+1) F:=by simp[gl,Lo]
def base(n i:Nat):Nat:=n+i*n-i*(i+1)/2
theorem zFZ:∀n,n<7→ ∀i,i<n→base n (i+1)=base n i+(n-1-i):=by decide
theorem qD:∀n,n<7→ ∀i,i<n→base n i+(n-1-i)≤base n n:=by decide
theorem xW:∀n,n<7→n≤base n n∧base n n≤21∧base n 0=n:=by decide
theorem zIg:∀n:Nat,n<7→ ∀j:Nat,j<n→ ∀i:Nat,i<j→zXx (n:Int) (i:Int) (j:Int)=dJ ((base n i+(j-i-1):Nat):Int):=by decide+kernel
def exP(n D:Nat)(x:SPr)(T:Mx)(i:Nat):List Int:=if i<n then x.zJ.getD i []++T.getD i []else J1 (n+D) 0
def exF(n:Nat)(x:SPr)(m:zC)(T:Mx)(i j:Nat):List Int:=if j<n-1-i then(x.zB.getD i []).getD j []++T.getD (base n i+j) []else J1 n 0++(m.zG.getD i []).getD (j-(n-1-i)) []
def unC(N i:Nat):Mx:=gl (N-1-i) fun j=>uE N (i+1+j)
def exC(n D:Nat)(x:SPr)(m:zC)(T:Mx)(i:Nat):Mx:=if i<n then gl (n+D-1-i) (exF n x m T i)else unC (n+D) i
def ext(n D:Nat)(x:SPr)(m:zC)(T:Mx):SPr:=⟨x.zA++J1 D m.Prime,gl (n+D) (exP n D x T),gl (n+D) (exC n D x m T)⟩
structure zGa (n D:Nat) (x:SPr) (m:zC) (T:Mx):Prop where
 hn:n≤6
 o:x.zA.length=n
 p:x.zJ.length=n
 c:x.zB.length=n
 cl:∀i,i<n→(x.zB.getD i []).length=n-1-i
 pl:∀i,(x.zJ.getD i []).length≤6
 ce:∀i j,((x.zB.getD i []).getD j []).length≤6
 t:T.length=base n n
 tl:∀i,(T.getD i []).length≤30
 m:yAj n m D
section
variable {n D:Nat}{x:SPr}{m:zC}{T:Mx} (h:zGa n D x m T)
 include h
theorem yCF{N k:Nat}(hk:k<N)(hN:N≤100):zF5 (N:Int) (k:Int)=dJ (uE N k):=by
 have _:=h;unfold zF5;rw[yK (by omega),bs,yF (by grind),bs]
 congr 1
 apply Kl;intro j
 by_cases hj:j<N
 ·by_cases hkj:k=j
  ·grind[uE,mkv]
  ·rw[J8,Qs hkj];simp[uE,mkv,hj,Ne.symm hkj]
 grind[uE,mkv]
theorem yCG{i:Nat}(hi:i<n){P:Mx}{C:List Mx}:zH (zRt x T (P,C,(i:Int))) ([],((i+1:Nat):Int))=dJ (gl (n-1-i) (exF n x m T i)):=by
 have h6:=h.hn;have hc:=h.cl i hi;have:=zM (body:=zRt x T (P,C,(i:Int))) (r:=gl (n-1-i) (exF n x m T i)) (fun j=>(gl j (exF n x m T i),((i+1+j:Nat):Int))) (n-1-i) (fun j hj=>by
  have hb:=qD n (by omega) i hi;have a1:=h.ce i j;have a2:=h.tl (base n i+j);have e:exF n x m T i j=(x.zB.getD i []).getD j []++T.getD (base n i+j) []:=if_pos hj;unfold zRt;simp only
  rw[h.o,yI (by omega),zK,zT [] (by grind),bs,zF (by omega) (by omega),bs,zF (by omega) (by omega),bs,
   show((i+1+j:Nat):Int)-(i:Int)-1=(j:Int)from by omega,zT [] (by omega),bs,xX (by omega),bs,
   zIg n (by omega) (i+1+j) (by omega) i (by omega),bs,show i+1+j-i-1=j from by omega,zT [] (by rw[h.t];omega),bs,zP (by omega),bs,zP (by rw[yN];simp;omega),bs,zF (by omega) (by omega),bs,cs,←e,xV];rfl) (by
  unfold zRt;simp only
  rw[h.o,show i+1+(n-1-i)=n from by omega,vR,zL])
 exact this
theorem yCH{i:Nat}(hi:i<n){P:Mx}{C:List Mx}:zH (zRu x m (P,C,(i:Int))) (gl (n-1-i) (exF n x m T i),0)=dJ (gl (n+D-1-i) (exF n x m T i)):=by
 have h6:=h.hn;have h3:=h.m.d3;have mW:=h.m.mat i hi;have:=zM (body:=zRu x m (P,C,(i:Int))) (r:=gl (n+D-1-i) (exF n x m T i)) (fun j=>(gl (n-1-i+j) (exF n x m T i),((j:Nat):Int))) D (fun j hj=>by
  have e:exF n x m T i (n-1-i+j)=J1 n 0++(m.zG.getD i []).getD j []:=by rw[exF,if_neg (by omega),show n-1-i+j-(n-1-i)=j from by omega]
  have hr:=(mW.2 j hj).1;unfold zRu;simp only
  rw[h.m.d,yI hj,zK,h.o,yK (by omega),bs,zT [] (by grind),bs,zT [] (by rw[mW.1];exact hj),bs,zP (by rw[hr];simp;omega),bs,zP (by rw[yN];simp;omega),bs,zF (by omega) (by omega),bs,cs,←e,xV];rfl) (by
  unfold zRu;simp only
  rw[h.m.d,vR,zL,show n-1-i+D=n+D-1-i from by omega])
 exact this
theorem yCI:zH (zOy x m T) ([],[],0)=dJ (gl n (exP n D x T),gl n (exC n D x m T)):=by
 have h6:=h.hn;have h3:=h.m.d3;have hb:=xW n (by omega);have:=zM (body:=zOy x m T) (r:=(gl n (exP n D x T),gl n (exC n D x m T))) (fun i=>(gl i (exP n D x T),gl i (exC n D x m T),((i:Nat):Int))) n (fun i hi=>by
  have a1:=h.pl i;have a2:=h.tl i;have e1:exP n D x T i=x.zJ.getD i []++T.getD i []:=if_pos hi;have e2:exC n D x m T i=gl (n+D-1-i) (exF n x m T i):=if_pos hi;unfold zOy;simp only
  rw[h.o,yI hi,zK,zT [] (by rw[h.p];exact hi),bs,xX (by omega),bs,zT [] (by rw[h.t];omega),bs,zP (by omega),bs,zP (by rw[yN];simp;omega),bs,zF (by omega) (by omega),bs,cs,
   yCG h hi,bs,yCH h hi,bs,zP (by rw[yN];simp;omega),bs,bs,←e1,←e2,xV,xV]) (by
  unfold zOy;simp only
  rw[h.o,vR,zL])
 exact this
theorem yCJ{k:Nat}(hk:k<D):zH (zRv x m) ([],((k+1:Nat):Int))=dJ (unC (n+D) (n+k)):=by
 have h6:=h.hn;have h3:=h.m.d3;have:=zM (body:=zRv x m) (r:=unC (n+D) (n+k)) (fun j=>(gl j fun j=>uE (n+D) (n+k+1+j),((k+1+j:Nat):Int))) (D-1-k) (fun j hj=>by
  unfold zRv;simp only
  rw[h.m.d,yI (by omega),zK,h.o,zF (by omega) (by omega),bs,zF (by omega) (by omega),bs,←H1,←H1,yCF h (by omega) (by omega),bs,zP (by rw[yN];simp;omega),bs,zF (by omega) (by omega),bs,cs,show n+(k+1+j)=n+k+1+j from by omega,xV (F:=fun j=>uE (n+D) (n+k+1+j))];rfl) (by
  unfold zRv;simp only
  rw[h.m.d,show k+1+(D-1-k)=D from by omega,vR,zL,unC,show n+D-1-(n+k)=D-1-k from by omega])
 exact this
theorem yCK:zH (zOz x m) (gl n (exP n D x T),gl n (exC n D x m T),0)=dJ (gl (n+D) (exP n D x T),gl (n+D) (exC n D x m T)):=by
 have h6:=h.hn;have h3:=h.m.d3;have:=zM (body:=zOz x m) (r:=(gl (n+D) (exP n D x T),gl (n+D) (exC n D x m T))) (fun k=>(gl (n+k) (exP n D x T),gl (n+k) (exC n D x m T),((k:Nat):Int))) D (fun k hk=>by
  have e1:exP n D x T (n+k)=J1 (n+D) 0:=if_neg (by omega);have e2:exC n D x m T (n+k)=unC (n+D) (n+k):=if_neg (by omega);unfold zOz;simp only
  rw[h.m.d,yI hk,zK,h.o,zF (by omega) (by omega),bs,←H1,yK (by omega),bs,zP (by grind),bs,zF (by omega) (by omega),bs,cs,yCJ h hk,bs,zP (by rw[yN];simp;omega),bs,bs,←e1,←e2,xV,xV];rfl) (by
  unfold zOz;simp only
  rw[h.m.d,vR,zL])
 exact this
theorem zIh:f_j x m T=dJ (ext n D x m T):=by
 have h6:=h.hn;have h3:=h.m.d3;have:=zM (body:=zUO m) (r:=x.zA++J1 D m.Prime) (fun i=>(x.zA++J1 i m.Prime,((i:Nat):Int))) D (fun i hi=>by
  unfold zUO;simp only
  rw[h.m.d,yI hi,zK,zP (by rw[J5,h.o];simp;omega),bs,zF (by omega) (by omega),bs,cs,Jg,←Kw]) (by
  unfold zUO;simp only
  rw[h.m.d,vR,zL])
 rw[Lw,Jb,show((0:Nat):Int)=0 from rfl]at this;unfold f_j;rw[xX (by rw[h.o];omega),bs,this,bs,yCI h,bs,yCK h,bs];rfl
end
end Go.Pl
