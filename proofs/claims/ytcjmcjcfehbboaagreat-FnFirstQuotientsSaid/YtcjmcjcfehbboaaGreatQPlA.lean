/- x -/
import Derived.Test.YtcjmcjcfehbboaaGreatQAbB
import Derived.Test.YtcjmcjcfehbboaaGreatQWF
open List renaming replicate→J1,getD_eq_getElem?_getD→J2,getElem?_eq_getElem→J4,length_append→J8,getElem?_eq_some_iff→Ja,length_singleton→Jd,getElem?_append_right→Je,take_of_length_le→Jg,mem_map→Jh,append_assoc→Ji,append_nil→Jk,length_replicate→Jl,map_cons→Jm,getElem?_map→Jp,getElem_mem→Jt,range→Ju,length_cons→Jx,nil_append→Jy,getElem?_replicate→K1,replicate_append_replicate→K3,mem_range→K5,getElem?_append_left→K9,getElem?_append→Kb,ext_getElem?→Kl,length_drop→Km,replicate_succ→Ks,take_succ_eq_append_getElem→Ku,take_zero→Kv,getElem?_drop→Ky,drop_replicate→L1,take_succ_cons→L4,set_cons_zero→L5,map_append→L7,range_succ→L9,length_nil→Li,drop_eq_getElem_cons→Lv,drop_zero→H3,length_range→H8,drop_of_length_le→H9,replicate_succ'→Hb,range'_succ→Hi,cons_append→G5,singleton_append→G7,set_append_right→G8,range'→Ga,length_take→Ge,map_congr_left→U7,getElem?_cons_zero→Ul,suffix_cons_iff→Q0,all_cons→Q4,replicate_zero→Q9,findSome?_cons→Qb,range_succ_eq_map→Qj,length→Qx,drop_append→Ja0,getD_cons_zero→Ja4,mem_iff_getElem→Jah,getElem?_set_ne→Jaj,take_left'→Jao,getElem?_cons_succ→Jaq,map_map→Jau,getElem?_set→Jb3
open Bool renaming and_eq_true→J3,not_true→Jo,not_false→K2
open Nat renaming le_refl→J7,zero_add→Jc,lt_or_ge→Jf,zero_le→Jw,sub_self→L8,add_assoc→Lu,succ_mul→Ly,lt_trichotomy→H4,add_sub_cancel_left→Hx,strongRecOn→Gg,lt_of_not_le→Ja2,zero_sub→Jam,add_zero→Jan,lt_irrefl→Jbm,eq_zero_or_pos→Jbn
open Int renaming toNat_natCast→J9,emod_eq_of_lt→Jb,mul_emod→Jq,add_emod→Jv,zero_add→Jz,emod_emod→K0,add_zero→Kd,mul_one→Kf,emod_lt_of_pos→Kh,emod_nonneg→Kq,mul_zero→L3,mul_comm→Lp,mul_le_mul→H0,mul_assoc→H5,one_mul→Hj,toNat_zero→Hk,zero_emod→G9,tmod_eq_emod_of_nonneg→Gb,zero_mul→Gf,sub_emod_right→Gl,mul_nonneg→Gy,emod_self→U4,natCast_add→U9,sub_zero→Ud,add_mul_emod_self_left→Ug,add_emod_right→Un,tmod_add_mul_tdiv→Q5,emod_add_emod→Ja1,tmod→Jae,lt_tmod_of_pos→Jak,add_emod_emod→Jar,sub_mul→Jav,tmod_lt_of_pos→Jbo,add_assoc→Jbp
open Option renaming map_eq_some_iff→K7,some→Ls,isSome_iff_exists→Ui
open Option renaming some→jq,none→jr
open Bool renaming true→js,false→jt
namespace Go.Pc
abbrev Vec:=List Int
structure Lvl where
 o:Int
 w:Vec
 cs:List Vec
abbrev Pcp:=List Lvl
def zeros(n:Nat):Vec:=J1 n 0
def iter{α:Type}:Nat→(α→α)→α→α
 |0,_,x=>x
 |n+1,f,x=>iter n f (f x)
theorem vK{α:Type}(f:α→α):∀(n:Nat)(x:α),iter (n+1) f x=f (iter n f x)
 |0,_=>rfl
 |n+1,x=>by rw[iter,vK f n (f x)];rfl
theorem zEx{α:Type}(f:α→α)(a:Nat):∀(b:Nat)(x:α),iter (a+b) f x=iter a f (iter b f x)
 |0,_=>rfl
 |b+1,x=>by show iter (a+b) f (f x)=_;rw[zEx f a b (f x)];rfl
def img{α:Type}(m:α→α→α):List α→Vec→α→α
 |c::cs,x::xs,acc=>img m cs xs (iter x.toNat (fun v=>m v c) acc)
 |_,_,acc=>acc
def V:Pcp→Vec→Prop
 | [],v=>v=[]
 |l::P,v=>match v with
  | []=>False
  |a::x=>(0≤a∧a<l.o)∧V P x
def mul:Pcp→Vec→Vec→Vec
 |l::P,a::x,b::y=>
  let r:=mul P (iter b.toNat (fun v=>img (mul P) l.cs v (zeros P.length)) x) y
  if a+b≥l.o then(a+b-l.o)::mul P l.w r else(a+b)::r
 |_,_,_=>[]
def Ok:Pcp→Prop
 | []=>True
 |l::P=>1<l.o∧V P l.w∧l.cs.length=P.length∧(∀c∈l.cs,V P c)∧Ok P
structure Mon {α:Type} (S:α→Prop) (m:α→α→α) (e:α):Prop where
 cl:∀{a b},S a→S b→S (m a b)
 ein:S e
 assoc:∀{a b c},S a→S b→S c→m (m a b) c=m a (m b c)
 onel:∀{a},S a→m e a=a
 oner:∀{a},S a→m a e=a
structure Grp {α:Type} (S:α→Prop) (m:α→α→α) (e:α):Prop extends Mon S m e where
 inv:∀{a},S a→ ∃b,S b∧m a b=e
theorem Grp.invl{α:Type}{S:α→Prop}{m:α→α→α}{e:α}(h:Grp S m e){a:α}(ha:S a):∃b,S b∧m a b=e∧m b a=e:=by
 obtain⟨b,hb,h1⟩:=h.inv ha;obtain⟨c,hc,h2⟩:=h.inv hb;refine⟨b,hb,h1,?_⟩;have:a=c:=by rw[←h.oner ha,←h2,←h.assoc ha hb hc,h1,h.onel hc]
 grind
theorem Grp.cancel_l{α:Type}{S:α→Prop}{m:α→α→α}{e:α}(h:Grp S m e){a b c:α}(ha:S a)(hb:S b)(hc:S c)(hh:m a b=m a c):b=c:=by obtain⟨d,hd,_,h2⟩:=h.invl ha;rw[←h.onel hb,←h.onel hc,←h2,h.assoc hd ha hb,h.assoc hd ha hc,hh]
section
variable {α:Type}{S:α→Prop}{m:α→α→α}{e:α}
def pw(m:α→α→α)(e:α)(x:α)(k:Nat):α:=iter k (fun v=>m v x) e
theorem vW(h:Mon S m e){x:α}(hx:S x):∀k,S (pw m e x k)
 |0=>h.ein
 |k+1=>by rw[pw,vK];exact h.cl (vW h hx k) hx
theorem sA{f:α→α}(hf:∀a,S a→S (f a)):∀(k:Nat){x:α},S x→S (iter k f x)
 |0,_,hx=>hx
 |k+1,_,hx=>sA hf k (hf _ hx)
theorem zEy(h:Mon S m e){x a:α}(hx:S x)(ha:S a):∀k,iter k (fun v=>m v x) a=m a (pw m e x k)
 |0=>(h.oner ha).symm
 |k+1=>by rw[vK,zEy h hx ha k];show _=m a (iter (k+1) (fun v=>m v x) e);rw[vK];exact h.assoc ha (vW h hx k) hx
theorem zCG(h:Mon S m e){x:α}(hx:S x)(a b:Nat):pw m e x (a+b)=m (pw m e x a) (pw m e x b):=by rw[Nat.add_comm,pw,zEx,←zEy h hx (vW h hx a) b];rfl
theorem zMi(h:Mon S m e){x:α}(hx:S x):pw m e x 1=x:=h.onel hx
theorem zRt(h:Mon S m e){x:α}(hx:S x)(k:Nat):pw m e x (k+1)=m x (pw m e x k):=by rw[Nat.add_comm,zCG h hx 1 k,zMi h hx]
theorem zAP(h:∀{a b},S a→S b→S (m a b)):∀(cs:List α)(x:Vec){a:α},(∀c∈cs,S c)→S a→S (img m cs x a)
 |c::cs,x::xs,_,hc,ha=>by simp only[img];exact zAP h cs xs (by grind) (sA (by simp_all) _ ha)
 | [],_,_,_,ha=>by grind[img]
 |_::_,[],_,_,ha=>by grind[img]
theorem zFg(h:Mon S m e)(cs:List α)(x:Vec){a:α}(hc:∀c∈cs,S c)(ha:S a):S (img m cs x a):=zAP h.cl cs x hc ha
theorem zEz(h:Mon S m e):∀(cs:List α)(x:Vec){a:α},(∀c∈cs,S c)→S a→img m cs x a=m a (img m cs x e)
 |c::cs,x::xs,a,hc,ha=>by
  have h1:S c:=hc c (by simp);have h2:∀c∈cs,S c:=by grind
  simp only[img];rw[zEy h h1 ha,zEz h cs xs h2 (h.cl ha (vW h h1 _)),zEy h h1 h.ein,zEz h cs xs h2 (h.cl h.ein (vW h h1 _)),h.onel (vW h h1 _),
   h.assoc ha (vW h h1 _) (zFg h cs xs h2 h.ein)]
 | [],_,a,_,ha=>by simp[img,h.oner ha]
 |_::_,[],a,_,ha=>by simp[img,h.oner ha]
theorem qN(h:Mon S m e){c:α}{cs:List α}{x:Int}{xs:Vec}(hc:S c)(eD:∀c∈cs,S c):img m (c::cs) (x::xs) e=m (pw m e c x.toNat) (img m cs xs e):=by simp only[img];rw[zEz h cs xs eD (sA (fun a ha=>h.cl ha hc) _ h.ein)];rfl
theorem zAT(m:α→α→α):∀(cs:List α)(n:Nat)(a:α),img m cs (zeros n) a=a
 | [],_,_=>by simp[img]
 |_::_,0,_=>by rfl
 |c::cs,n+1,a=>by simp only[zeros,Ks,img,Hk,iter];exact zAT m cs n a
theorem zGS(h:Mon S m e){g:α}(hg:S g):∀(cs ds:List α)(x:Vec),(∀c∈cs,S c)→(∀c∈ds,S c)→cs.length=ds.length→(∀(k:Nat) c d,cs[k]? =jq c→ds[k]? =jq d→m c g=m g d)→m (img m cs x e) g=m g (img m ds x e)
 | [],[],x,_,_,_,_=>by simp[img,h.onel hg,h.oner hg]
 |c::cs,d::ds,[],_,_,_,_=>by simp[img,h.onel hg,h.oner hg]
 |c::cs,d::ds,x::xs,hc,hd,hl,hp=>by
  have eP:S c:=hc c (by simp);have hd0:S d:=hd d (by simp);have eD:∀c∈cs,S c:=by grind
  have pR:∀c∈ds,S c:=by grind
  have key:∀k,m (pw m e c k) g=m g (pw m e d k):=by
   intro k
   induction k with
   |zero=>simp[pw,iter,h.onel hg,h.oner hg]
   |succ k ih=>
    have h0:m c g=m g d:=hp 0 c d rfl rfl;rw[pw,vK,pw,vK];show m (m (pw m e c k) c) g=m g (m (pw m e d k) d);rw[h.assoc (vW h eP k) eP hg,h0,←h.assoc (vW h eP k) hg hd0,ih,h.assoc hg (vW h hd0 k) hd0]
  rw[qN h eP eD,qN h hd0 pR,h.assoc (vW h eP _) (zFg h _ _ eD h.ein) hg,zGS h hg cs ds xs eD pR (by grind) (fun k c d h1 h2=>hp (k+1) c d (by grind) (by grind)),
   ←h.assoc (vW h eP _) hg (zFg h _ _ pR h.ein),key,h.assoc hg (vW h hd0 _) (zFg h _ _ pR h.ein)]
theorem zNT{β:Type}{T:β→Prop}{n:β→β→β}{f:β}(h:Mon S m e)(h':Mon T n f)(φ:α→β)(gR:∀a,S a→T (φ a))(h1:φ e=f)(hm:∀a b,S a→S b→φ (m a b)=n (φ a) (φ b)):∀(cs:List α)(x:Vec),(∀c∈cs,S c)→φ (img m cs x e)=img n (cs.map φ) x f
 | [],_,_=>by simp[img,h1]
 |c::cs,[],_=>by simp[img,h1]
 |c::cs,x::xs,hc=>by
  have eP:S c:=hc c (by simp);have eD:∀c∈cs,S c:=by grind
  have key:∀k,φ (pw m e c k)=pw n f (φ c) k:=by
   intro k
   induction k with
   |zero=>grind[pw,iter]
   |succ k ih=>
    grind[pw,vK,vW]
  rw[qN h eP eD,Jm,qN h' (gR c eP) (by simp_all),hm _ _ (vW h eP _) (zFg h _ _ eD h.ein),key,zNT h h' φ gR h1 hm cs xs eD]
end
theorem vT:∀{P:Pcp},Ok P→V P (zeros P.length)
 | [],_=>rfl
 |l::P,h=>by simp only[Ok]at h;simp only[Jx,zeros,Ks,V];exact⟨by omega,vT h.2.2.2.2⟩
theorem wY:∀{P:Pcp},Ok P→ ∀{x y:Vec},V P x→V P y→V P (mul P x y)
 | [],_,_,_,hx,hy=>by rfl
 |l::P,h,[],_,hx,_=>by grind[V]
 |l::P,h,_::_,[],_,hy=>by grind[V]
 |l::P,h,a::x,b::y,hx,hy=>by
  simp only[Ok]at h;simp only[V]at hx hy;have h1:∀v,V P v→V P (img (mul P) l.cs v (zeros P.length)):=fun v hv=>zAP (wY h.2.2.2.2) l.cs v h.2.2.2.1 (vT h.2.2.2.2)
  have h2:=wY h.2.2.2.2 (sA h1 b.toNat hx.2) hy.2;simp only[mul];split
  ·exact⟨by omega,wY h.2.2.2.2 h.2.1 h2⟩
  ·exact⟨by omega,h2⟩
def Rel{α:Type}(m:α→α→α)(e:α):Pcp→List α→Prop
 | [],s=>s=[]
 |l::P,s=>match s with
  | []=>False
  |g::s=>pw m e g l.o.toNat=img m s l.w e∧(∀(k:Nat) c d,s[k]? =jq c→l.cs[k]? =jq d→m c g=m g (img m s d e))∧Rel m e P s
section
variable {α:Type}{S:α→Prop}{m:α→α→α}{e:α}
theorem yAm(h:Mon S m e):∀(P:Pcp)(s:List α),Ok P→(∀g∈s,S g)→Rel m e P s→ ∀x y,V P x→V P y→img m s (mul P x y) e=m (img m s x e) (img m s y e)
 | [],s,_,_,hr,x,y,hx,hy=>by simp only[Rel]at hr;subst hr;simp[img,h.onel h.ein]
 |l::P,[],_,_,hr,_,_,_,_=>by grind[Rel]
 |l::P,g::s,_,_,_,[],_,hx,_=>by grind[V]
 |l::P,g::s,_,_,_,_::_,[],_,hy=>by grind[V]
 |l::P,g::s,hk,hs,hr,a::x,b::y,hx,hy=>by
  simp only[Ok]at hk;simp only[Rel]at hr;simp only[V]at hx hy;obtain⟨ho,hw,gK,eD,dw⟩:=hk;obtain⟨eC,gI,fe⟩:=hr;have hg:S g:=hs g (by simp);have pZ:∀c∈s,S c:=by grind
  have gv:s.length=P.length:=by
   clear eC gI hx hy hw gK eD hs pZ
   induction P generalizing s with
   |nil=>grind[Rel]
   |cons l P ih=>
    cases s with
    |nil=>grind[Rel]
    |cons c s=>grind[Rel,Ok]
  have ih:=yAm h P s dw pZ fe;have hφ:∀v,S (img m s v e):=fun v=>zFg h s v pZ h.ein
  have hmP:∀{a b},V P a→V P b→V P (mul P a b):=wY dw;have tk:∀v,V P v→V P (img (mul P) l.cs v (zeros P.length)):=fun v hv=>zAP hmP l.cs v eD (vT dw)
  have hσ:∀v,V P v→m (img m s v e) g=m g (img m s (img (mul P) l.cs v (zeros P.length)) e):=by
   intro v hv;have key:∀(cs:List Vec)(v:Vec)(acc:Vec),(∀c∈cs,V P c)→V P acc→img m s (img (mul P) cs v acc) e=img m (cs.map fun c=>img m s c e) v (img m s acc e):=by
    intro cs
    induction cs with
    |nil=>grind[img]
    |cons c cs ihc=>
     intro v acc hc hacc;cases v with
     |nil=>simp[img]
     |cons z v=>
      have eP:V P c:=hc c (by simp);have it:∀k acc,V P acc→img m s (iter k (fun v=>mul P v c) acc) e=iter k (fun v=>m v (img m s c e)) (img m s acc e):=by
       intro k
       induction k with
       |zero=>intro acc _;rfl
       |succ k ihk=>
        simp_all[iter]
      simp only[img,Jm];rw[ihc v _ (by simp_all) (sA (by grind) _ hacc),it _ _ hacc]
   rw[key l.cs v (zeros P.length) eD (vT dw),zAT];refine zGS h hg s _ v pZ (by simp_all) (by grind) ?_;intro k c d hc hd;simp only[Jp,K7]at hd;obtain⟨d',my,rfl⟩:=hd
   grind
  have hσk:∀k v,V P v→m (img m s v e) (pw m e g k)=m (pw m e g k) (img m s (iter k (fun v=>img (mul P) l.cs v (zeros P.length)) v) e):=by
   intro k
   induction k with
   |zero=>intro v _;simp[pw,iter,h.onel (hφ v),h.oner (hφ v)]
   |succ k ihk=>
    intro v hv;rw[zRt h hg,←h.assoc (hφ v) hg (vW h hg k),hσ v hv,h.assoc hg (hφ _) (vW h hg k),ihk _ (tk v hv),←h.assoc hg (vW h hg k) (hφ _)];rfl
  have fC:=vW h hg a.toNat;have dr:=vW h hg b.toNat;have pi:V P (iter b.toNat (fun v=>img (mul P) l.cs v (zeros P.length)) x):=sA tk _ hx.2;have aH:m (img m (g::s) (a::x) e) (img m (g::s) (b::y) e)=m (pw m e g (a.toNat+b.toNat)) (img m s (mul P (iter b.toNat (fun v=>img (mul P) l.cs v (zeros P.length)) x) y) e):=by rw[qN h hg pZ,qN h hg pZ,h.assoc fC (hφ x) (h.cl dr (hφ y)),←h.assoc (hφ x) dr (hφ y),hσk _ _ hx.2,h.assoc dr (hφ _) (hφ y),←ih _ _ pi hy.2,←h.assoc fC dr (hφ _),zCG h hg]
  rw[aH];simp only[mul];split
  ·rename_i hge
   rw[qN h hg pZ,ih _ _ hw (hmP pi hy.2),←eC,←h.assoc (vW h hg _) (vW h hg _) (hφ _),←zCG h hg]
   congr 2
   omega
  ·rw[qN h hg pZ]
   congr 2
   omega
end
def tY(n j:Nat):Vec:=(zeros n).set j 1
def sig(P:Pcp)(l:Lvl)(v:Vec):Vec:=img (mul P) l.cs v (zeros P.length)
def uZ:Pcp→Prop
 | []=>True
 |l::P=>uZ P∧Rel (mul P) (zeros P.length) P l.cs∧sig P l l.w=l.w∧ ∀j,j<P.length→mul P l.w (iter l.o.toNat (sig P l) (tY P.length j))=mul P (tY P.length j) l.w
theorem zIq(n:Nat):tY (n+1) 0=1::zeros n:=rfl
theorem zOX(n j:Nat):tY (n+1) (j+1)=0::tY n j:=rfl
def wH(n:Nat):List Vec:=(Ju n).map (tY n)
theorem zMj(n:Nat):wH (n+1)=(1::zeros n)::(wH n).map (0::·):=by
 simp only[wH,Qj,Jm,Jau,zIq]
 congr 1
theorem zFh:∀{P:Pcp},Ok P→ ∀{j:Nat},j<P.length→V P (tY P.length j)
 | [],_,_,hj=>by simp at hj
 |l::P,h,0,_=>by grind[Ok,zIq,V,vT]
 |l::P,h,j+1,hj=>by simp only[Ok]at h;rw[Jx,zOX];simp only[V];exact⟨by omega,zFh h.2.2.2.2 (by grind)⟩
theorem zMk{l:Lvl}{P:Pcp}(h:Ok (l::P)){v:Vec}(_hv:V P v):V P (sig P l v):=by simp only[Ok]at h;exact zAP (wY h.2.2.2.2) l.cs v h.2.2.2.1 (vT h.2.2.2.2)
theorem xG(l:Lvl)(P:Pcp)(a b:Int)(x y:Vec):mul (l::P) (a::x) (b::y)=if a+b≥l.o then(a+b-l.o)::mul P l.w (mul P (iter b.toNat (sig P l) x) y)else(a+b)::mul P (iter b.toNat (sig P l) x) y:=rfl
theorem zOY{n k:Nat}{c:Vec}(h:(wH n)[k]? =jq c):k<n∧c=tY n k:=by
 simp only[wH,Jp,K7]at h
 grind
theorem normal:∀(P:Pcp),Ok P→(∀Q,Q<:+P→Mon (V Q) (mul Q) (zeros Q.length))→ ∀x,V P x→img (mul P) (wH P.length) x (zeros P.length)=x
 | [],_,_,x,hx=>by grind[V,img,zeros]
 |l::P,_,_,[],hx=>by grind[V]
 |l::P,h,hM,a::x,hx=>by
  have hMl:=hM (l::P) (List.suffix_refl _);have hMP:=hM P (by simp);have h':=h;simp only[Ok]at h;simp only[V]at hx;rw[Jx,zMj];have hz:V P (zeros P.length):=vT h.2.2.2.2;have dj:V (l::P) (1::zeros P.length):=by grind[V]
  have fd:∀c∈(wH P.length).map (0::·),V (l::P) c:=by
   intro c hc;simp only[wH,Jau,Jh,K5]at hc;obtain⟨j,hj,rfl⟩:=hc;simp only[Function.comp,V]
   grind[zFh]
  have pA:V (l::P) (zeros (P.length+1)):=by grind[vT]
  rw[show zeros (P.length+1)=zeros (l::P).length from rfl];rw[qN hMl dj fd];have sz:∀k:Nat,iter k (sig P l) (zeros P.length)=zeros P.length:=by
   intro k
   induction k with
   |zero=>rfl
   |succ k ih=>grind[iter,sig,zAT]
  have h1:∀k:Nat,(k:Int)<l.o→pw (mul (l::P)) (zeros (l::P).length) (1::zeros P.length) k=(k:Int)::zeros P.length:=by
   intro k
   induction k with
   |zero=>intro _;rfl
   |succ k ih=>
    intro hk;rw[pw,vK];show mul (l::P) (pw (mul (l::P)) (zeros (l::P).length) (1::zeros P.length) k) (1::zeros P.length)=_;rw[ih (by omega),xG,if_neg (by omega)];rw[sz,hMP.onel hz];rfl
  have h2:∀(cs:List Vec)(y acc:Vec),(∀c∈cs,V P c)→V P acc→img (mul (l::P)) (cs.map (0::·)) y (0::acc)=0::img (mul P) cs y acc:=by
   intro cs
   induction cs with
   |nil=>grind[img]
   |cons c cs ih=>
    intro y acc hc hacc;cases y with
    |nil=>simp[img]
    |cons z y=>
     have eP:V P c:=hc c (by simp);have it:∀(k:Nat)(acc:Vec),V P acc→iter k (fun v=>mul (l::P) v (0::c)) (0::acc)=0::iter k (fun v=>mul P v c) acc:=by
      intro k
      induction k with
      |zero=>intro _ _;rfl
      |succ k ihk=>
       intro acc hacc;simp only[iter];rw[xG,if_neg (by omega)];exact ihk _ (wY h.2.2.2.2 hacc eP)
     simp only[Jm,img];rw[it _ _ hacc,ih _ _ (by grind) (sA (by grind[wY]) _ hacc)]
  have cm:∀c∈wH P.length,V P c:=by
   intro c hc;simp only[wH,Jh,K5]at hc;obtain⟨j,hj,rfl⟩:=hc
   grind[zFh]
  rw[h1 a.toNat (by omega),show zeros (l::P).length=0::zeros P.length from rfl,h2 _ _ _ cm hz,normal P h.2.2.2.2 (by grind) x hx.2,xG,if_neg (by omega)];simp only[Hk,iter];rw[hMP.onel hx.2]
  grind
theorem zKJ:∀(P:Pcp),Ok P→uZ P→Grp (V P) (mul P) (zeros P.length)
 | [],_,_=>by
  refine⟨⟨fun _ _=>rfl,rfl,fun _ _ _=>rfl,?_,?_⟩,fun ha=>⟨[],rfl,rfl⟩⟩<;>
  ·intro a ha
   simp only[V]at ha;subst ha;rfl
 |l::P,h,hc=>by
  have h':=h;simp only[Ok]at h;simp only[uZ]at hc;obtain⟨ho,hw,gK,eD,hP⟩:=h;obtain⟨jf,mS,aR,aP⟩:=hc;have N:=zKJ P hP jf;have hM:∀Q,Q<:+P→Mon (V Q) (mul Q) (zeros Q.length):=by
   intro Q hQ;obtain⟨t,ht⟩:=hQ;have:Ok Q∧uZ Q:=by
    clear N hw gK eD mS aR aP h'
    induction t generalizing P with
    |nil=>grind
    |cons a t ih=>
     simp at ht;subst ht;simp only[Ok]at hP;simp only[uZ]at jf
     grind
   have gE:SizeOf.sizeOf Q≤SizeOf.sizeOf P:=by
    rw[←ht]
    clear N hw gK eD mS aR aP h' hP jf ht this
    induction t with
    |nil=>simp
    |cons a t ih=>grind
   exact(zKJ Q this.1 this.2).toMon
  have hz:V P (zeros P.length):=vT hP;have σin:∀v,V P v→V P (sig P l v):=by grind[zMk]
  have σhom:∀x y,V P x→V P y→sig P l (mul P x y)=mul P (sig P l x) (sig P l y):=fun x y hx hy=>yAm N.toMon P l.cs hP eD mS x y hx hy
  have σz:sig P l (zeros P.length)=zeros P.length:=zAT _ _ _ _;have itin:∀(k:Nat) v,V P v→V P (iter k (sig P l) v):=fun k v hv=>sA σin k hv
  have ithom:∀(k:Nat) x y,V P x→V P y→iter k (sig P l) (mul P x y)=mul P (iter k (sig P l) x) (iter k (sig P l) y):=by
   intro k
   induction k with
   |zero=>intro _ _ _ _;rfl
   |succ k ih=>simp_all[iter]
  have itz:∀k:Nat,iter k (sig P l) (zeros P.length)=zeros P.length:=by
   intro k
   induction k with
   |zero=>rfl
   |succ k ih=>grind[iter]
  have itw:∀k:Nat,iter k (sig P l) l.w=l.w:=by
   intro k
   induction k with
   |zero=>rfl
   |succ k ih=>grind[iter]
  have cm:∀c∈wH P.length,V P c:=by
   intro c hc;simp only[wH,Jh,K5]at hc;obtain⟨j,hj,rfl⟩:=hc
   grind[zFh]
  have inner:∀x,V P x→mul P x l.w=mul P l.w (iter l.o.toNat (sig P l) x):=by
   intro x hx;have hnf:=normal P hP hM x hx;have pe:=zNT N.toMon N.toMon (iter l.o.toNat (sig P l)) (by grind) (itz _) (by grind) (wH P.length) x cm;rw[←hnf,pe];refine zGS N.toMon hw _ _ x cm (by simp_all) (by simp) ?_;intro k c d hc hd;rw[Jp,K7]at hd;obtain⟨c',ci,rfl⟩:=hd;rw[hc]at ci;simp at ci;subst ci;obtain⟨hk,rfl⟩:=zOY hc
   grind
  have e:∀(x y z:Vec)(b c:Int),V P x→V P y→V P z→0≤b→0≤c→
    mul P (iter c.toNat (sig P l) (mul P (iter b.toNat (sig P l) x) y)) z=mul P (iter (b+c).toNat (sig P l) x) (mul P (iter c.toNat (sig P l) y) z)∧
    mul P (iter c.toNat (sig P l) (mul P l.w (mul P (iter b.toNat (sig P l) x) y))) z=mul P l.w (mul P (iter (b+c).toNat (sig P l) x) (mul P (iter c.toNat (sig P l) y) z))∧
    (l.o≤b+c→mul P (iter (b+c-l.o).toNat (sig P l) x) (mul P l.w (mul P (iter c.toNat (sig P l) y) z))=mul P l.w (mul P (iter (b+c).toNat (sig P l) x) (mul P (iter c.toNat (sig P l) y) z))):=by
   intro x y z b c hx hy hz hb hcc;have jg:=itin b.toNat x hx;have hcy:=itin c.toNat y hy;have hbc:iter c.toNat (sig P l) (iter b.toNat (sig P l) x)=iter (b+c).toNat (sig P l) x:=by rw[←zEx];congr 1;omega
   have jh:=itin (b+c).toNat x hx;have e1:mul P (iter c.toNat (sig P l) (mul P (iter b.toNat (sig P l) x) y)) z=mul P (iter (b+c).toNat (sig P l) x) (mul P (iter c.toNat (sig P l) y) z):=by rw[ithom _ _ _ jg hy,hbc,N.assoc jh hcy hz]
   refine⟨e1,?_,?_⟩
   ·rw[ithom _ _ _ hw (N.cl jg hy),itw,N.assoc hw (itin _ _ (N.cl jg hy)) hz,e1]
   ·intro hge
    have aV:=N.cl hcy hz;rw[←N.assoc (itin _ x hx) hw aV,inner _ (itin _ x hx),←zEx,N.assoc hw (itin _ x hx) aV]
    congr 3
    omega
  refine⟨⟨by grind[wY],vT h',?_,?_,?_⟩,?_⟩
  ·intro A B C hA hB hC
   match A,B,C,hA,hB,hC with
   |a::x,b::y,c::z,hA,hB,hC=>
    simp only[V]at hA hB hC;obtain⟨e1,e2,e3⟩:=e x y z b c hA.2 hB.2 hC.2 hB.1.1 hC.1.1
    by_cases c1:a+b≥l.o<;>by_cases c2:b+c≥l.o
    ·rw[xG,if_pos c1,xG l P b c,if_pos c2,xG,xG,e2,e3 c2]
     grind
    ·rw[xG,if_pos c1,xG l P b c,if_neg c2,xG,xG,e2,if_neg (by omega),if_pos (by omega)]
     grind
    ·rw[xG,if_neg c1,xG l P b c,if_pos c2,xG,xG,e1,e3 c2,if_pos (by omega),if_neg (by omega)]
     grind
    ·rw[xG,if_neg c1,xG l P b c,if_neg c2,xG,xG,e1]
     grind
  ·intro A hA
   match A,hA with
   |a::x,hA=>
    simp only[V]at hA;show mul (l::P) (0::zeros P.length) (a::x)=_;rw[xG,if_neg (by omega),itz,N.onel hA.2,Jz]
  ·intro A hA
   match A,hA with
   |a::x,hA=>
    simp only[V]at hA;show mul (l::P) (a::x) (0::zeros P.length)=_;rw[xG,if_neg (by omega)];simp only[Hk,iter];rw[N.oner hA.2,Kd]
  ·intro A hA
   match A,hA with
   |a::x,hA=>
    simp only[V]at hA
    by_cases ha:a=0
    ·obtain⟨y,hy,h1⟩:=N.inv hA.2
     refine⟨0::y,by simp only[V];grind,?_⟩;rw[xG,if_neg (by omega)];simp only[Hk,iter];rw[h1,ha];rfl
    ·have tu:=itin (l.o-a).toNat x hA.2
     obtain⟨y,hy,h1⟩:=N.inv (N.cl hw tu);refine⟨(l.o-a)::y,by simp only[V];grind,?_⟩;rw[xG,if_pos (by omega),←N.assoc hw tu hy,h1,show a+(l.o-a)-l.o=0 by omega];rfl
termination_by P=>P
end Go.Pc

namespace Go.Pc
structure Fil {α:Type} (S:α→Prop) (m:α→α→α) (e:α) (n:Nat) (o:Nat→Int) (co:α→Nat→Int):Prop where
 g:Grp S m e
 r:∀{a d},S a→d<n→0≤co a d∧co a d<o d
 e0:∀{d},d<n→co e d=0
 ex:∀{a b},S a→S b→(∀d,d<n→co a d=co b d)→a=b
 ad:∀{a b d},S a→S b→d<n→(∀j,j<d→co b j=0)→(∀j,j<d→co (m a b) j=co a j)∧co (m a b) d=(co a d+co b d)%o d
inductive Gen {α:Type} (S:α→Prop) (m:α→α→α) (e:α) (X:α→Prop):α→Prop
 |one:Gen S m e X e
 |x {a}:X a→Gen S m e X a
 |m {a b}:Gen S m e X a→Gen S m e X b→Gen S m e X (m a b)
 |i {a b}:Gen S m e X a→S b→m a b=e→Gen S m e X b
section
variable {α:Type}{S:α→Prop}{m:α→α→α}{e:α}{X Y:α→Prop}
theorem Gen.to(h:∀a,X a→Gen S m e Y a){a:α}(ha:Gen S m e X a):Gen S m e Y a:=by
 induction ha with
 |one=>exact .one
 |x hx=>exact h _ hx
 |m _ _ h1 h2=>exact .m h1 h2
 |i _ hb hh h1=>exact .i h1 hb hh
theorem Gen.mono(h:∀a,X a→Y a){a:α}(ha:Gen S m e X a):Gen S m e Y a:=ha.to fun _ h'=>.x (h _ h')
theorem Gen.pw{a:α}(ha:Gen S m e X a):∀k,Gen S m e X (pw m e a k)
 |0=>.one
 |k+1=>by rw[Pc.pw,vK];exact .m (ha.pw k) ha
variable (g:Grp S m e)
 include g
theorem Gen.in(hX:∀a,X a→S a){a:α}(ha:Gen S m e X a):S a:=by
 induction ha with
 |one=>exact g.ein
 |x hx=>exact hX _ hx
 |m _ _ h1 h2=>exact g.cl h1 h2
 |i _ hb _ _=>exact hb
theorem Grp.inv_l{a b:α}(ha:S a)(hb:S b)(h:m a b=e):m b a=e:=by obtain⟨c,hc,h1,h2⟩:=g.invl ha;rw[show b=c from g.cancel_l ha hb hc (h.trans h1.symm)];exact h2
theorem Gen.left(hX:∀a,X a→S a){a b:α}(ha:S a)(hb:Gen S m e X b)(h:Gen S m e X (m a b)):Gen S m e X a:=by
 have hbs:=hb.in g hX;obtain⟨c,hc,h1,_⟩:=g.invl hbs;have:=Gen.m h (.i hb hc h1)
 rwa [g.assoc ha hbs hc,h1,g.oner ha]at this
theorem Gen.right(hX:∀a,X a→S a){a b:α}(ha:Gen S m e X a)(hb:S b)(h:Gen S m e X (m a b)):Gen S m e X b:=by
 have has:=ha.in g hX;obtain⟨c,hc,h1,h2⟩:=g.invl has;have:=Gen.m (.i ha hc h1) h
 rwa [←g.assoc hc has hb,h2,g.onel hb]at this
end
section
variable {α:Type}{S:α→Prop}{m:α→α→α}{e:α}{n:Nat}{o:Nat→Int}{co:α→Nat→Int} (F:Fil S m e n o co)
 include F
theorem Fil.dm{a b:α}{d:Nat}(hd:d≤n)(ha:S a)(hb:S b)(za:∀j,j<d→co a j=0)(zb:∀j,j<d→co b j=0):∀j,j<d→co (m a b) j=0:=fun j hj=>by have h:=(F.ad ha hb (by omega:j<n) fun i hi=>zb i (by omega)).2;rw[h,za j hj,zb j hj];simp
theorem Fil.md{x:Int}{d:Nat}(hd:d<n){a:α}(ha:S a)(h:co a d=x):x%o d=x:=by have:=F.r ha hd;rw[←h];exact Jb this.1 this.2
theorem Fil.pwc{t:α}{d:Nat}(hd:d<n)(ht:S t)(zt:∀j,j<d→co t j=0):∀k,(∀j,j<d→co (pw m e t k) j=0)∧co (pw m e t k) d=(k*co t d)%o d
 |0=>⟨fun j hj=>F.e0 (by omega),by rw[pw,iter,F.e0 hd];simp⟩
 |k+1=>by
  have ih:=Fil.pwc hd ht zt k;have hp:=vW F.g.toMon ht k;have e1:pw m e t (k+1)=m (pw m e t k) t:=by rw[pw,vK];rfl
  have h:=F.ad hp ht hd zt;rw[e1];refine⟨fun j hj=>(h.1 j hj).trans (ih.1 j hj),?_⟩;rw[h.2,ih.2,Ja1]
  congr 1
  rw[Int.natCast_succ,Int.add_mul,Hj]
theorem Fil.cmd{a b w:α}{k:Nat}(hk:k<n)(ha:S a)(hb:S b)(hw:S w)(za:∀j,j<k→co a j=0)(zb:∀j,j<k+1→co b j=0)(h:m (m b a) w=m a b∨m (m a b) w=m b a):∀j,j<k+1→co w j=0:=by
 have e1:∀j,j<k+1→co (m b a) j=co a j:=fun j hj=>by have h:=(F.ad hb ha (by omega:j<n) fun i hi=>za i (by omega)).2;rw[h,zb j hj,Jz];exact F.md (by omega) ha rfl
 have e2:∀j,j<k+1→co (m a b) j=co a j:=fun j hj=>by have h:=(F.ad ha hb (by omega:j<n) fun i hi=>zb i (by omega)).2;rw[h,zb j hj,Kd];exact F.md (by omega) ha rfl
 intro j
 induction j using Gg with
 |ind j ih=>
  intro hj;have fQ:j<n:=by omega
  have hr:=F.r ha fQ;have pt:=F.r hw fQ;have key:(co a j+co w j)%o j=co a j:=by
   rcases h with h|h
   ·have h1:=(F.ad (F.g.cl hb ha) hw fQ fun i hi=>ih i hi (by omega)).2
    rw[h,e2 j hj,e1 j hj]at h1;exact h1.symm
   ·have h1:=(F.ad (F.g.cl ha hb) hw fQ fun i hi=>ih i hi (by omega)).2
    rw[h,e1 j hj,e2 j hj]at h1;exact h1.symm
  by_cases g:co a j+co w j<o j
  ·rw[Jb (by omega) g]at key;omega
  ·rw[←Gl,Jb (by omega) (by omega)]at key;omega
structure Tab (S:α→Prop) (n:Nat) (co:α→Nat→Int) (T:Nat→Option α):Prop where
 h:∀{k t},T k=jq t→k<n∧S t∧(∀j,j<k→co t j=0)∧co t k=1
def GX(n:Nat)(co:α→Nat→Int)(T:Nat→Option α)(Q:List α)(k:Nat)(a:α):Prop:=(∃j,k≤j∧T j=jq a)∨(a∈Q∧ ∀j,j<k→j<n→co a j=0)
 omit F in
theorem GX.s{T:Nat→Option α}{Q:List α}(hT:Tab S n co T)(hQ:∀a∈Q,S a){k:Nat}:∀a,GX n co T Q k a→S a
  |_,.inl ⟨_,_,h⟩=>(hT.h h).2.1
  |a,.inr h=>hQ a h.1
section
variable {T:Nat→Option α} (hT:Tab S n co T)
structure Clo (S:α→Prop) (m:α→α→α) (e:α) (n:Nat) (o:Nat→Int) (co:α→Nat→Int) (T:Nat→Option α) (Q:List α):Prop where
 p:∀{k t},T k=jq t→Gen S m e (GX n co T Q (k+1)) (pw m e t (o k).toNat)
 c:∀{k j t u},T k=jq t→T j=jq u→k<j→ ∃c,Gen S m e (GX n co T Q (k+1)) c∧m u t=m t c
variable (hC:Clo S m e n o co T [])
 include hT hC
theorem Clo.conj{k:Nat}{t:α}(ht:T k=jq t){y:α}(hy:Gen S m e (GX n co T [] (k+1)) y):∃c,Gen S m e (GX n co T [] (k+1)) c∧m y t=m t c:=by
 have ev:=(hT.h ht).2.1;have hG:∀{a},Gen S m e (GX n co T [] (k+1)) a→S a:=fun h=>h.in F.g (GX.s hT (by simp))
 induction hy with
 |one=>exact⟨e,.one,by rw[F.g.onel ev,F.g.oner ev]⟩
 |x hx=>
  rcases hx with⟨j,h1,h2⟩|⟨h,_⟩
  ·exact hC.c ht h2 (by omega)
  ·simp at h
 | @m a b ga gb ha hb=>
  obtain⟨c,c1,c2⟩:=ha;obtain⟨d,d1,d2⟩:=hb;refine⟨m c d,.m c1 d1,?_⟩;rw[F.g.assoc (hG ga) (hG gb) ev,d2,←F.g.assoc (hG ga) ev (hG d1),c2,F.g.assoc ev (hG c1) (hG d1)]
 | @i a b ga hb hh ha=>
  obtain⟨c,c1,c2⟩:=ha;obtain⟨d,d1,d2,_⟩:=F.g.invl (hG c1);have hl:=F.g.inv_l (hG ga) hb hh;refine⟨d,.i c1 d1 d2,F.g.cancel_l (hG ga) (F.g.cl hb ev) (F.g.cl ev d1) ?_⟩;rw[←F.g.assoc (hG ga) hb ev,hh,F.g.onel ev,←F.g.assoc (hG ga) ev d1,c2,F.g.assoc ev (hG c1) d1,d2,F.g.oner ev]
theorem Clo.conjs{k:Nat}{t:α}(ht:T k=jq t):∀(a:Nat){y:α},Gen S m e (GX n co T [] (k+1)) y→ ∃c,Gen S m e (GX n co T [] (k+1)) c∧m y (pw m e t a)=m (pw m e t a) c
 |0,y,hy=>⟨y,hy,by have:=hy.in F.g (GX.s hT (by simp));show m y e=m e y;rw[F.g.onel this,F.g.oner this]⟩
 |a+1,y,hy=>by
  have hG:∀{a},Gen S m e (GX n co T [] (k+1)) a→S a:=fun h=>h.in F.g (GX.s hT (by simp))
  have ev:=(hT.h ht).2.1;obtain⟨c,c1,c2⟩:=Clo.conjs ht a hy;obtain⟨d,d1,d2⟩:=Clo.conj F hT hC ht c1;have hp:=vW F.g.toMon ev a;refine⟨d,d1,?_⟩;rw[show pw m e t (a+1)=m (pw m e t a) t from by rw[pw,vK];rfl,←F.g.assoc (hG hy) hp ev,c2,F.g.assoc hp (hG c1) ev,d2,F.g.assoc hp ev (hG d1)]
theorem Clo.pws{k:Nat}{t:α}(ht:T k=jq t):∀N:Nat,Gen S m e (GX n co T [] (k+1)) (pw m e t (N*(o k).toNat))
 |0=>by rw[Nat.zero_mul];exact .one
 |N+1=>by rw[Ly,zCG F.g.toMon (hT.h ht).2.1];exact .m (Clo.pws ht N) (hC.p ht)
theorem Clo.form{k:Nat}{t:α}(ht:T k=jq t){x:α}(hx:Gen S m e (GX n co T [] k) x):∃(a:Nat)(y:α),Gen S m e (GX n co T [] (k+1)) y∧x=m (pw m e t a) y:=by
 have ev:=(hT.h ht).2.1;have hG:∀{j a},Gen S m e (GX n co T [] j) a→S a:=fun h=>h.in F.g (GX.s hT (by simp))
 have hP:=fun a=>vW F.g.toMon ev a
 induction hx with
 |one=>exact⟨0,e,.one,(F.g.onel F.g.ein).symm⟩
 | @x a hx=>
  rcases hx with⟨j,h1,h2⟩|⟨h,_⟩
  ·by_cases hj:j=k
   ·subst hj
    rw[ht]at h2;cases h2;exact⟨1,e,.one,by rw[zMi F.g.toMon ev,F.g.oner ev]⟩
   ·exact⟨0,a,.x (.inl ⟨j,by omega,h2⟩),(F.g.onel (hT.h h2).2.1).symm⟩
  ·simp at h
 | @m a b _ _ ha hb=>
  obtain⟨i,y,hy,rfl⟩:=ha;obtain⟨j,z,hz,rfl⟩:=hb;obtain⟨c,c1,c2⟩:=Clo.conjs F hT hC ht j hy;refine⟨i+j,m c z,.m c1 hz,?_⟩;rw[zCG F.g.toMon ev,F.g.assoc (hP i) (hG hy) (F.g.cl (hP j) (hG hz)),←F.g.assoc (hG hy) (hP j) (hG hz),c2,F.g.assoc (hP j) (hG c1) (hG hz),F.g.assoc (hP i) (hP j) (F.g.cl (hG c1) (hG hz))]
 | @i a b ga hb hh ha=>
  obtain⟨i,y,hy,rfl⟩:=ha;obtain⟨y',y1,y2,_⟩:=F.g.invl (hG hy);have ho:1≤(o k).toNat:=by have:=F.r ev (hT.h ht).1;omega
  have eY:i≤i*(o k).toNat:=Nat.le_mul_of_pos_right i ho;have e1:i*(o k).toNat=i+(i*(o k).toNat-i):=by omega
  have hw:=Clo.pws F hT hC ht i;obtain⟨w,w1,w2,_⟩:=F.g.invl (hG hw);obtain⟨c,c1,c2⟩:=Clo.conjs F hT hC ht (i*(o k).toNat-i) (.i hy y1 y2);refine⟨i*(o k).toNat-i,m c w,.m c1 (.i hw w1 w2),?_⟩;refine F.g.cancel_l (F.g.cl (hP i) (hG hy)) hb (F.g.cl (hP _) (F.g.cl (hG c1) w1)) ?_;rw[hh,←F.g.assoc (hP _) (hG c1) w1,←c2,F.g.assoc y1 (hP _) w1,F.g.assoc (hP i) (hG hy) (F.g.cl y1 (F.g.cl (hP _) w1)),←F.g.assoc (hG hy) y1 (F.g.cl (hP _) w1),y2,F.g.onel (F.g.cl (hP _) w1),←F.g.assoc (hP i) (hP _) w1,←zCG F.g.toMon ev,←e1,w2]
theorem Clo.depth:∀(l k:Nat),k+l=n→ ∀{x:α},Gen S m e (GX n co T [] k) x→(∀j,j<k→co x j=0)→x≠e→ ∃j,k≤j∧j<n∧(T j).isSome=js∧(∀i,i<j→co x i=0)∧co x j≠0
 |0,k,hk,x,hx,hz,gf=>by
  have hG:∀{j a},Gen S m e (GX n co T [] j) a→S a:=fun h=>h.in F.g (GX.s hT (by simp))
  exact absurd (F.ex (hG hx) F.g.ein fun d hd=>by rw[hz d (by omega),F.e0 hd]) gf
 |l+1,k,hk,x,hx,hz,gf=>by
  have hG:∀{j a},Gen S m e (GX n co T [] j) a→S a:=fun h=>h.in F.g (GX.s hT (by simp))
  have aN:k<n:=by omega
  have deep:∀{y},Gen S m e (GX n co T [] (k+1)) y→ ∀j,j<k+1→co y j=0:=fun{y} hy=>by
   induction hy with
   |one=>exact fun j hj=>F.e0 (by omega)
   |x hx=>
    rcases hx with⟨j,h1,h2⟩|⟨h,_⟩
    ·exact fun i hi=>(hT.h h2).2.2.1 i (by omega)
    ·simp at h
   |m ga gb ha hb=>exact F.dm (by omega) (hG ga) (hG gb) ha hb
   | @i a b ga hb hh ha=>
    intro j
    induction j using Gg with
    |ind j ih=>
     intro hj;have h1:=(F.ad (hG ga) hb (by omega:j<n) fun i hi=>ih i hi (by omega)).2;rw[hh,F.e0 (by omega),ha j hj,Jz]at h1;rw[←F.md (by omega) hb rfl];exact h1.symm
  have next:Gen S m e (GX n co T [] (k+1)) x→ ∃j,k≤j∧j<n∧(T j).isSome=js∧(∀i,i<j→co x i=0)∧co x j≠0:=fun h=>by obtain⟨j,j1,j2⟩:=Clo.depth l (k+1) (by omega) h (deep h) gf;exact⟨j,by omega,j2⟩
  cases ht:T k with
  |none=>
   refine next (hx.mono fun a ha=>?_);rcases ha with⟨j,h1,h2⟩|⟨h,_⟩
   ·by_cases hj:j=k
    ·subst hj;rw[ht]at h2;cases h2
    ·exact .inl ⟨j,by omega,h2⟩
   ·simp at h
  |some t=>
   by_cases h0:co x k=0
   ·obtain⟨a,y,hy,rfl⟩:=Clo.form F hT hC ht hx
    have aj:=hT.h ht;have hp:=F.pwc aN aj.2.1 aj.2.2.1 a;have h1:=(F.ad (vW F.g.toMon aj.2.1 a) (hG hy) aN fun j hj=>deep hy j (by omega)).2;rw[h0,deep hy k (by omega),hp.2,aj.2.2.2,Kd,Kf,K0]at h1;have ho:=F.r aj.2.1 aN;have hd:(o k).toNat∣a:=by have:=Int.dvd_of_emod_eq_zero h1.symm;rw[show o k=((o k).toNat:Int)from by omega]at this;exact Int.natCast_dvd_natCast.1 this
    obtain⟨N,rfl⟩:=hd;rw[Nat.mul_comm]at next ⊢
    exact next (.m (Clo.pws F hT hC ht N) hy)
   ·exact⟨k,J7 _,aN,by rw[ht];rfl,hz,h0⟩
end
structure Can (S:α→Prop) (n:Nat) (co:α→Nat→Int) (H:α→Prop) (C:Nat→Option α):Prop where
 i:∀{k t},C k=jq t→k<n∧H t∧S t∧(∀j,j<k→co t j=0)∧co t k=1∧ ∀j,k<j→j<n→(C j).isSome=js→co t j=0
 d:∀{x},H x→x≠e→ ∃j,j<n∧(C j).isSome=js∧(∀i,i<j→co x i=0)∧co x j≠0
theorem Can.uniq{H:α→Prop}(hm:∀{a b},H a→H b→H (m a b))(hi:∀{a b},H a→S b→m a b=e→H b){C D:Nat→Option α}(hC:Can (e:=e) S n co H C)(hD:Can (e:=e) S n co H D):∀k,C k=D k:=by
 have bF:∀{C D:Nat→Option α},Can (e:=e) S n co H C→Can (e:=e) S n co H D→ ∀k,(C k).isSome=js→(D k).isSome=js:=fun{C D} hC hD k hk=>by
  obtain⟨t,ht⟩:=Ui.1 hk;obtain⟨a1,a2,a3,a4,a5,_⟩:=hC.i ht;obtain⟨j,j1,j2,j3,j4⟩:=hD.d a2 fun h=>by rw[h,F.e0 a1]at a5;cases a5
  rcases H4 j k with h|h|h
  ·exact absurd (a4 j h) j4
  ·rwa [←h]
  ·have:=j3 k h;omega
 intro k;cases hc:C k with
 |none=>
  cases hd:D k with
  |none=>rfl
  |some u=>
   have:=bF hD hC k (by rw[hd];rfl);rw[hc]at this;cases this
 |some t=>
  cases hd:D k with
  |none=>
   have:=bF hC hD k (by rw[hc];rfl);rw[hd]at this;cases this
  |some u=>
   obtain⟨a1,a2,a3,a4,a5,a6⟩:=hC.i hc;obtain⟨_,b2,b3,b4,b5,b6⟩:=hD.i hd;obtain⟨t',t1,t2,t3⟩:=F.g.invl a3;have hh:H (m t' u):=hm (hi a2 t1 t2) b2;have hhs:S (m t' u):=F.g.cl t1 b3;have e1:m t (m t' u)=u:=by rw[←F.g.assoc a3 t1 b3,t2,F.g.onel b3]
   have same:∀j,j<n→(C j).isSome=js→co t j=co u j:=fun j hj bC=>by
    rcases H4 j k with h|h|h
    ·rw[a4 j h,b4 j h]
    ·rw[h,a5,b5]
    ·rw[a6 j h hj bC,b6 j h hj (bF hC hD j bC)]
   have hz:m t' u=e:=by
    refine Classical.byContradiction fun gf=>?_
    obtain⟨j,j1,j2,j3,j4⟩:=hC.d hh gf;have h1:=(F.ad a3 hhs j1 j3).2;rw[e1,←same j j1 j2]at h1;have r1:=F.r a3 j1;have r2:=F.r hhs j1
    by_cases g:co t j+co (m t' u) j<o j
    ·rw[Jb (by omega) g]at h1;omega
    ·rw[←Gl,Jb (by omega) (by omega)]at h1;omega
   rw[hz,F.g.oner a3]at e1;rw[e1]
end
end Go.Pc

namespace Go.Pc
section
variable {α:Type}{S:α→Prop}{m:α→α→α}{e:α}{n:Nat}{o:Nat→Int}{co:α→Nat→Int}
def Dp(n:Nat)(co:α→Nat→Int)(k:Nat)(a:α):Prop:=∀j,j<k→j<n→co a j=0
theorem Gen.tr{T T':Nat→Option α}{Q Q':List α}{k:Nat}(hT:∀k t,T k=jq t→T' k=jq t)(hq:∀a∈Q,∀k,Dp n co k a→Gen S m e (GX n co T' Q' k) a){a:α}(h:Gen S m e (GX n co T Q k) a):Gen S m e (GX n co T' Q' k) a:=
 h.to fun a ha=>by
  rcases ha with⟨j,h1,h2⟩|⟨h1,h2⟩
  ·exact .x (.inl ⟨j,h1,hT _ _ h2⟩)
  ·exact hq a h1 k h2
structure Wl (S:α→Prop) (m:α→α→α) (e:α) (n:Nat) (o:Nat→Int) (co:α→Nat→Int) (L:α→Prop) (T:Nat→Option α) (Q:List α):Prop where
 t:Tab S n co T
 th:∀{k t},T k=jq t→Gen S m e L t
 q:∀a∈Q,S a∧Gen S m e L a
 g:∀a,L a→Gen S m e (GX n co T Q 0) a
 c:Clo S m e n o co T Q
theorem Wl.start(L:List α)(hL:∀a∈L,S a):Wl S m e n o co (· ∈L) (fun _=>jr) L:=
 ⟨⟨fun h=>by cases h⟩,(fun h=>by cases h),(fun a h=>⟨hL a h,.x h⟩),(fun a h=>.x (.inr ⟨h,fun j hj=>by omega⟩)),⟨(fun h=>by cases h),(fun h=>by cases h)⟩⟩
theorem Wl.drop{L:α→Prop}{T:Nat→Option α}{Q Q':List α}(h:Wl S m e n o co L T Q){x:α}(hx:∀k,Dp n co k x→Gen S m e (GX n co T Q' k) x)(h1:∀a∈Q',a∈Q)(h2:∀a∈Q,a=x∨a∈Q'):Wl S m e n o co L T Q':=by
 have tr:∀{k a},Gen S m e (GX n co T Q k) a→Gen S m e (GX n co T Q' k) a:=fun g=>g.tr (fun _ _ h=>h) fun a ha k hk=>by
  rcases h2 a ha with rfl|h
  ·exact hx k hk
  ·exact .x (.inr ⟨h,hk⟩)
 exact⟨h.t,h.th,fun a ha=>h.q a (h1 a ha),fun a ha=>tr (h.g a ha),⟨fun ht=>tr (h.c.p ht),fun a b c=>by obtain⟨w,w1,w2⟩:=h.c.c a b c;exact⟨w,tr w1,w2⟩⟩⟩
variable (F:Fil S m e n o co)
 include F
theorem Wl.add{L:α→Prop}{T:Nat→Option α}{Q Q':List α}(h:Wl S m e n o co L T Q){x y:α}{d:Nat}(hd:d<n)(hTd:T d=jr)(hy:S y)(cx:Gen S m e L y)(zy:∀j,j<d→co y j=0)(oy:co y d=1)
  (hx:∀k,Dp n co k x→Gen S m e (GX n co (fun j=>if j=d then jq y else T j) Q' k) x)(hq:∀a∈Q',S a∧Gen S m e L a)(h2:∀a∈Q,a=x∨a∈Q')
  (hp:pw m e y (o d).toNat∈Q')(hc:∀k u,T k=jq u→ ∃w,w∈Q'∧(m (m u y) w=m y u∨m (m y u) w=m u y)):Wl S m e n o co L (fun j=>if j=d then jq y else T j) Q':=by
 have hT:∀k t,T k=jq t→(fun j=>if j=d then jq y else T j) k=jq t:=fun k t hk=>by
  show(if k=d then jq y else T k)=jq t;rw[if_neg]
  ·exact hk
  ·intro g;rw[g,hTd]at hk;cases hk
 have pU:Tab S n co (fun j=>if j=d then jq y else T j):=⟨fun{k t} hk=>by
  replace hk:(if k=d then jq y else T k)=jq t:=hk
  split at hk
  ·rename_i g;cases hk;subst g;exact⟨hd,hy,zy,oy⟩
  ·exact h.t.h hk⟩
 have hS:∀{k a},Gen S m e (GX n co (fun j=>if j=d then jq y else T j) Q' k) a→S a:=fun g=>g.in F.g (GX.s pU fun a ha=>(hq a ha).1)
 have tr:∀{k a},Gen S m e (GX n co T Q k) a→Gen S m e (GX n co (fun j=>if j=d then jq y else T j) Q' k) a:=fun g=>g.tr hT fun a ha k hk=>by
  rcases h2 a ha with rfl|h
  ·exact hx k hk
  ·exact .x (.inr ⟨h,hk⟩)
 have new:∀{k j t u w},k<n→S t→S u→(∀i,i<k→co t i=0)→(∀i,i<j→co u i=0)→k<j→(fun i=>if i=d then jq y else T i) j=jq u→w∈Q'→(m (m u t) w=m t u∨m (m t u) w=m u t)→ ∃c,Gen S m e (GX n co (fun j=>if j=d then jq y else T j) Q' (k+1)) c∧m u t=m t c:=fun{k j t u w} hk ht hu zt zu bu hju hw hh=>by
  have dg:=(hq w hw).1;have bA:=F.cmd hk ht hu dg zt (fun i hi=>zu i (by omega)) hh;have g1:Gen S m e (GX n co (fun j=>if j=d then jq y else T j) Q' (k+1)) w:=.x (.inr ⟨hw,fun i hi _=>bA i hi⟩);have g2:Gen S m e (GX n co (fun j=>if j=d then jq y else T j) Q' (k+1)) u:=.x (.inl ⟨j,bu,hju⟩);rcases hh with hh|hh
  ·obtain⟨v,v1,v2,_⟩:=F.g.invl dg
   refine⟨m u v,.m g2 (.i g1 v1 v2),?_⟩;rw[←F.g.assoc ht hu v1,←hh,F.g.assoc (F.g.cl hu ht) dg v1,v2,F.g.oner (F.g.cl hu ht)]
  ·exact⟨m u w,.m g2 g1,by rw[←F.g.assoc ht hu dg,hh]⟩
 refine⟨pU,fun{k t} hk=>?_,hq,fun a ha=>tr (h.g a ha),fun{k t} hk=>?_,fun{k j t u} hk hj bu=>?_⟩
 ·replace hk:(if k=d then jq y else T k)=jq t:=hk
  split at hk
  ·cases hk;exact cx
  ·exact h.th hk
 ·replace hk:(if k=d then jq y else T k)=jq t:=hk
  split at hk
  ·rename_i g
   cases hk;subst g;have iD:=F.pwc hd hy zy (o k).toNat;have ho:=F.r hy hd;refine .x (.inr ⟨hp,fun i hi gR=>?_⟩)
   by_cases g:i=k
   ·rw[g,iD.2,oy,Kf,show(((o k).toNat:Nat):Int)=o k from by omega,U4]
   ·exact iD.1 i (by omega)
  ·exact tr (h.c.p hk)
 ·have a1:=pU.h hk
  have a2:=pU.h hj;have dx:(if k=d then jq y else T k)=jq t:=hk;have ph:(if j=d then jq y else T j)=jq u:=hj;split at dx
  ·rename_i g
   cases dx;subst g;rw[if_neg (by omega)]at ph;obtain⟨w,w1,w2⟩:=hc j u ph;exact new hd hy a2.2.1 zy a2.2.2.1 bu hj w1 w2
  ·split at ph
   ·rename_i g2
    cases ph;subst g2;obtain⟨w,w1,w2⟩:=hc k t dx;exact new a1.1 a1.2.1 hy a1.2.2.1 zy bu hj w1 w2.symm
   ·obtain⟨c,c1,c2⟩:=h.c.c dx ph bu
    exact⟨c,tr c1,c2⟩
structure Sf (S:α→Prop) (m:α→α→α) (e:α) (n:Nat) (co:α→Nat→Int) (T:Nat→Option α) (x y:α):Prop where
 s:S y
 d:∀k,Dp n co k x→Dp n co k y
 g:∀k Q,(∀a∈Q,S a)→Dp n co k x→Gen S m e (GX n co T Q k) y→Gen S m e (GX n co T Q k) x
 h:∀H:α→Prop,(∀a,H a→S a)→(∀{k t},T k=jq t→Gen S m e H t)→Gen S m e H x→Gen S m e H y
 omit F in
theorem Sf.refl{T:Nat→Option α}{x:α}(hx:S x):Sf S m e n co T x x:=⟨hx,fun _ h=>h,fun _ _ _ _ h=>h,fun _ _ _ h=>h⟩
 omit F in
theorem Sf.trans{T:Nat→Option α}{x y z:α}(h1:Sf S m e n co T x y)(h2:Sf S m e n co T y z):Sf S m e n co T x z:=
  ⟨h2.s,fun k h=>h2.d k (h1.d k h),fun k Q hQ h g=>h1.g k Q hQ h (h2.g k Q hQ (h1.d k h) g),fun H hS hT g=>h2.h H hS hT (h1.h H hS hT g)⟩
theorem Sf.right{T:Nat→Option α}(hT:Tab S n co T){x t z:α}{d:Nat}(hd:d<n)(hx:S x)(zx:∀j,j<d→co x j=0)(nx:co x d≠0)(ht:T d=jq t)(hz:∀{Y:α→Prop},(∀a,Y a→S a)→Gen S m e Y t→Gen S m e Y z)(bN:S z)(zz:∀j,j<d→co z j=0)(hr:co (m x z) d=0):Sf S m e n co T x (m x z)∧ ∀j,j<d+1→co (m x z) j=0:=by
 have pS:=F.dm (by omega) hx bN zx zz;have bA:∀j,j<d+1→co (m x z) j=0:=fun j hj=>by
  by_cases g:j=d
  ·rw[g];exact hr
  ·exact pS j (by omega)
 have hk:∀k,Dp n co k x→k≤d:=fun k h=>by
  by_cases g:k≤d
  ·exact g
  ·exact absurd (h d (by omega) hd) nx
 refine⟨⟨F.g.cl hx bN,fun k h=>fun j hj _=>bA j (by have:=hk k h;omega),fun k Q hQ h g=>?_,fun H hS hT' g=>.m g (hz hS (hT' ht))⟩,bA⟩;exact Gen.left F.g (GX.s hT hQ) hx (hz (GX.s hT hQ) (.x (.inl ⟨d,hk k h,ht⟩))) g
theorem Sf.left{T:Nat→Option α}(hT:Tab S n co T){x t z:α}{d:Nat}(hd:d<n)(hx:S x)(zx:∀j,j<d→co x j=0)(nx:co x d≠0)(ht:T d=jq t)(hz:∀{Y:α→Prop},(∀a,Y a→S a)→Gen S m e Y t→Gen S m e Y z)(bN:S z)(zz:∀j,j<d→co z j=0)(hr:co (m z x) d=0):Sf S m e n co T x (m z x)∧ ∀j,j<d+1→co (m z x) j=0:=by
 have pS:=F.dm (by omega) bN hx zz zx;have bA:∀j,j<d+1→co (m z x) j=0:=fun j hj=>by
  by_cases g:j=d
  ·rw[g];exact hr
  ·exact pS j (by omega)
 have hk:∀k,Dp n co k x→k≤d:=fun k h=>by
  by_cases g:k≤d
  ·exact g
  ·exact absurd (h d (by omega) hd) nx
 refine⟨⟨F.g.cl bN hx,fun k h=>fun j hj _=>bA j (by have:=hk k h;omega),fun k Q hQ h g=>?_,fun H hS hT' g=>.m (hz hS (hT' ht)) g⟩,bA⟩;exact Gen.right F.g (GX.s hT hQ) (hz (GX.s hT hQ) (.x (.inl ⟨d,hk k h,ht⟩))) hx g
theorem Wl.can{L:α→Prop}{T:Nat→Option α}(h:Wl S m e n o co L T []){C:Nat→Option α}(h1:∀k,(C k).isSome=(T k).isSome)
  (h2:∀{k t},C k=jq t→Gen S m e L t∧S t∧(∀j,j<k→co t j=0)∧co t k=1∧ ∀j,k<j→j<n→(C j).isSome=js→co t j=0):Can (e:=e) S n co (Gen S m e L) C:=by
 refine⟨fun{k t} hk=>⟨?_,h2 hk⟩,fun{x} hx gf=>?_⟩
 ·have:=h1 k
  rw[hk]at this;obtain⟨u,hu⟩:=Ui.1 this.symm;exact(h.t.h hu).1
 ·obtain⟨j,_,j2,j3,j4⟩:=Clo.depth F h.t h.c n 0 (by omega) (hx.to h.g) (fun j hj=>by omega) gf
  exact⟨j,j2,by rw[h1];exact j3,j4⟩
end
end Go.Pc

namespace Go.Pc
def cd(v:Vec)(j:Nat):Int:=v.getD j 0
def od(P:Pcp)(j:Nat):Int:=match P[j]? with
 |some l=>l.o
 |none=>1
theorem zUj(l:Lvl)(P:Pcp):od (l::P) 0=l.o:=rfl
theorem zNU(l:Lvl)(P:Pcp)(j:Nat):od (l::P) (j+1)=od P j:=by simp[od]
theorem yAn:∀{P:Pcp}{v:Vec},V P v→ ∀{d:Nat},d<P.length→0≤cd v d∧cd v d<od P d
 | [],_,_,d,hd=>by simp at hd
 |l::P,[],h,_,_=>by simp[V]at h
 |l::P,a::x,h,0,_=>by simp only[V]at h;exact h.1
 |l::P,a::x,h,d+1,hd=>by simp only[V]at h;rw[zNU];exact yAn h.2 (by simpa using hd)
theorem zWD:∀{P:Pcp}{a b:Vec},V P a→V P b→(∀d,d<P.length→cd a d=cd b d)→a=b
 | [],a,b,ha,hb,_=>by simp only[V]at ha hb;rw[ha,hb]
 |l::P,[],_,h,_,_=>by simp[V]at h
 |l::P,_::_,[],_,h,_=>by simp[V]at h
 |l::P,a::x,b::y,ha,hb,h=>by simp only[V]at ha hb;have h0:a=b:=h 0 (by simp);rw[h0,zWD ha.2 hb.2 fun d hd=>h (d+1) (by simpa using hd)]
theorem zWE:∀{P:Pcp}{x y:Vec},V P x→V P y→ ∀{d:Nat},d<P.length→(∀j,j<d→cd y j=0)→(∀j,j<d→cd (mul P x y) j=cd x j)∧cd (mul P x y) d=(cd x d+cd y d)%od P d
 | [],_,_,_,_,d,hd,_=>by simp at hd
 |l::P,[],_,h,_,_,_,_=>by simp[V]at h
 |l::P,_::_,[],_,h,_,_,_=>by simp[V]at h
 |l::P,a::x,b::y,hx,hy,0,_,_=>by
  simp only[V]at hx hy;refine⟨fun j hj=>by omega,?_⟩;rw[xG,zUj];show cd _ 0=(a+b)%l.o
  by_cases g:a+b≥l.o
  ·rw[if_pos g,←Gl,Jb (by omega) (by omega)];rfl
  ·rw[if_neg g,Jb (by omega) (by omega)];rfl
 |l::P,a::x,b::y,hx,hy,d+1,hd,hz=>by
  simp only[V]at hx hy;have hb:b=0:=hz 0 (by omega);subst hb;have ih:=zWE hx.2 hy.2 (d:=d) (by simpa using hd) fun j hj=>hz (j+1) (by omega)
  rw[xG,if_neg (by omega),zNU];show(∀j,j<d+1→cd ((a+0)::mul P x y) j=cd (a::x) j)∧_;rw[Kd];refine⟨fun j hj=>?_,ih.2⟩;cases j with
  |zero=>rfl
  |succ j=>exact ih.1 j (by omega)
theorem zRu{n d:Nat}:cd (zeros n) d=0:=by unfold cd zeros;rw[J2,K1];split<;>rfl
theorem fil{P:Pcp}(h:Ok P)(hc:uZ P):Fil (V P) (mul P) (zeros P.length) P.length (od P) cd:=
 ⟨zKJ P h hc,fun ha hd=>yAn ha hd,fun _=>zRu,fun ha hb h=>zWD ha hb h,fun ha hb hd hz=>zWE ha hb hd hz⟩
end Go.Pc

namespace Go.Pc
section
variable {α:Type}{S:α→Prop}{m:α→α→α}{e:α}{n:Nat}{o:Nat→Int}{co:α→Nat→Int} (F:Fil S m e n o co)
 include F
theorem Fil.pw1{t:α}{d:Nat}(hd:d<n)(ht:S t)(zt:∀j,j<d→co t j=0)(h1:co t d=1)(k:Nat):S (pw m e t k)∧(∀j,j<d→co (pw m e t k) j=0)∧co (pw m e t k) d=k%o d:=by have h:=F.pwc hd ht zt k;rw[h1,Kf]at h;exact⟨vW F.g.toMon ht k,h⟩
theorem Fil.killl{t x:α}{d:Nat}(hd:d<n)(ht:S t)(zt:∀j,j<d→co t j=0)(h1:co t d=1)(hx:S x)(zx:∀j,j<d→co x j=0):co (m (pw m e t (o d-co x d).toNat) x) d=0:=by have hr:=F.r hx hd;obtain⟨p1,p2,p3⟩:=F.pw1 hd ht zt h1 (o d-co x d).toNat;rw[(F.ad p1 hx hd zx).2,p3,Ja1,show(((o d-co x d).toNat:Nat):Int)=o d-co x d from by omega,show o d-co x d+co x d=o d from by omega,U4]
theorem Fil.invc{t u:α}{d:Nat}(hd:d<n)(ht:S t)(hu:S u)(h:m t u=e)(zt:∀j,j<d→co t j=0):(∀j,j<d→co u j=0)∧(co t d+co u d)%o d=0:=by
 have z:∀j,j<d→co u j=0:=by
  intro j
  induction j using Gg with
  |ind j ih=>
   intro hj;have h1:=(F.ad ht hu (by omega:j<n) fun i hi=>ih i hi (by omega)).2;rw[h,F.e0 (by omega),zt j hj,Jz]at h1;rw[←F.md (by omega) hu rfl];exact h1.symm
 refine⟨z,?_⟩;have h1:=(F.ad ht hu hd z).2;rw[h,F.e0 hd]at h1;exact h1.symm
theorem Fil.killr{t u x:α}{d:Nat}(hd:d<n)(ht:S t)(hu:S u)(h:m t u=e)(zt:∀j,j<d→co t j=0)(h1:co t d=1)(hx:S x):S (pw m e u (co x d).toNat)∧(∀j,j<d→co (pw m e u (co x d).toNat) j=0)∧co (m x (pw m e u (co x d).toNat)) d=0:=by
 have hr:=F.r hx hd;obtain⟨z,c⟩:=F.invc hd ht hu h zt;have hp:=F.pwc hd hu z (co x d).toNat;have hs:=vW F.g.toMon hu (co x d).toNat;refine⟨hs,hp.1,?_⟩;rw[(F.ad hx hs hd hp.1).2,hp.2,Jar,show(((co x d).toNat:Nat):Int)=co x d from by omega];have e1:co x d+co x d*co u d=co x d*(co t d+co u d):=by rw[h1,Int.mul_add,Kf]
 rw[e1,Jq,c,L3,G9]
structure Rd (S:α→Prop) (m:α→α→α) (e:α) (n:Nat) (co:α→Nat→Int) (L:α→Prop) (C:Nat→Option α) (k j:Nat) (x:α):Prop where
 s:S x
 l:Gen S m e L x
 z:∀i,i<k→co x i=0
 o:co x k=1
 r:∀i,k<i→i<j→(C i).isSome=js→co x i=0
theorem Rd.step{L:α→Prop}{C:Nat→Option α}{k j:Nat}{x z:α}(h:Rd S m e n co L C k j x)(bu:k<j)(hj:j<n)(hz:S z)(hl:Gen S m e L z)(zz:∀i,i<j→co z i=0)(hk:co (m x z) j=0):Rd S m e n co L C k (j+1) (m x z):=by
 have h1:=(F.ad h.s hz hj zz).1;refine⟨F.g.cl h.s hz,.m h.l hl,fun i hi=>?_,?_,fun i hi ea hc=>?_⟩
 ·rw[h1 i (by omega)];exact h.z i hi
 ·rw[h1 k bu];exact h.o
 ·by_cases g:i=j
  ·rw[g];exact hk
  ·rw[h1 i (by omega)];exact h.r i hi (by omega) hc
 omit F in
theorem Rd.skip{L:α→Prop}{C:Nat→Option α}{k j:Nat}{x:α}(h:Rd S m e n co L C k j x)(hc:C j=jr∨co x j=0):Rd S m e n co L C k (j+1) x:=
  ⟨h.s,h.l,h.z,h.o,fun i hi ea er=>by
    by_cases g:i=j
    · subst g
      rcases hc with hc|hc
      ·rw[hc]at er;cases er
      ·exact hc
    ·exact h.r i hi (by omega) er⟩
end
end Go.Pc

namespace Go.Pc
end Go.Pc

namespace Go.Pc
end Go.Pc

namespace Go.Pc
section
variable {A:Type}
end
end Go.Pc

namespace Go.Pc
end Go.Pc

namespace Go.Pc
end Go.Pc

namespace Go.Pc
end Go.Pc

namespace Go.Pl
open Go Go.Ab
theorem bs{α β:Type}(x:α)(f:α→Option β):(jq x).bind f=f x:=by simp only[Option.bind_some]
theorem zJ{α:Type}(x y:α):cond js x y=x:=by simp only[cond_true]
theorem zK{α:Type}(x y:α):cond jt x y=y:=by simp only[cond_false]
theorem zH{n:Int}(h1:-9223372036854775808≤n)(h2:n≤9223372036854775807):rng n=jq n:=by unfold rng;rw[if_pos];simp only[inR,J3,decide_eq_true_eq];omega
theorem tL{α:Type}(xs:List α)(i:Nat):ixO xs (i:Int)=xs[i]?:=by unfold ixO;rw[if_pos (by omega)];simp
theorem uR{α:Type}{xs:List α}{i:Nat}(h:i<xs.length):ixO xs (i:Int)=jq xs[i]:=by rw[tL];exact J4 h
theorem xJ{n:Nat}(h:n≤68719476736):yH (n:Int)=jq n:=by unfold yH;rw[if_pos (by omega)];simp
theorem zT{α:Type}{xs ys:List α}(h:xs.length+ys.length≤68719476736):yC xs ys=jq (xs++ys):=by unfold yC;rw[if_pos h]
theorem zU{σ ρ:Type}{body:σ→Option (σ⊕ρ)}{r:ρ}(S:Nat→σ)(n:Nat)(h:∀i,i<n→body (S i)=jq (.inl (S (i+1))))(he:body (S n)=jq (.inr r)):zC body (S 0)=jq r:=by
 have key:∀k i,i+k=n→zC body (S i)=jq r:=by
  intro k
  induction k with
  |zero=>intro i hi;rw[yP,show i=n from by omega,he]
  |succ k ih=>intro i hi;rw[yP,h i (by omega)];exact ih (i+1) (by omega)
 exact key n 0 (by omega)
theorem tU{σ ρ:Type}{body:σ→Option (σ⊕ρ)}{Q:ρ→Prop}(I:Nat→σ→Prop)(n:Nat)(h:∀i s,i<n→I i s→(∃s',body s=jq (.inl s')∧I (i+1) s')∨ ∃r,body s=jq (.inr r)∧Q r)
  (he:∀s,I n s→ ∃r,body s=jq (.inr r)∧Q r){s:σ}(h0:I 0 s):∃r,zC body s=jq r∧Q r:=by
 have key:∀k i s,i+k=n→I i s→ ∃r,zC body s=jq r∧Q r:=by
  intro k
  induction k with
  |zero=>
   intro i s hi hs;obtain rfl:i=n:=by omega
   obtain⟨r,h1,h2⟩:=he s hs;exact⟨r,by rw[yP,h1],h2⟩
  |succ k ih=>
   intro i s hi hs;rcases h i s (by omega) hs with⟨s',h1,h2⟩|⟨r,h1,h2⟩
   ·rw[yP,h1];exact ih (i+1) s' (by omega) h2
   ·exact⟨r,by rw[yP,h1],h2⟩
 exact key n 0 s (by omega) h0
def zNV{ρ:Type}:Option ρ→Unit⊕ρ
 |none=>.inl ()
 |some r=>.inr r
theorem cs(i:Nat):(i:Int)+1=((i+1:Nat):Int):=by omega
theorem zOZ{ρ:Type}{body:Int→Option (Int⊕(Unit⊕ρ))}(n:Nat)(t:Nat→Option ρ)(i0:Nat)(hn:i0≤n)
  (h:∀i,i0≤i→i<n→(∀j,i0≤j→j<i→t j=jr)→body (i:Int)=jq (match t i with|none=>.inl ((i+1:Nat):Int)|some r=>.inr (.inr r)))
  (he:(∀j,i0≤j→j<n→t j=jr)→body (n:Int)=jq (.inr (.inl ()))):
  zC body (i0:Int)=jq (zNV ((Ga i0 (n-i0)).findSome? t)):=by
 have key:∀k i,i0≤i→i+k=n→(∀j,i0≤j→j<i→t j=jr)→zC body (i:Int)=jq (zNV ((Ga i k).findSome? t)):=by
  intro k
  induction k with
  |zero=>
   intro i hi hk hp;obtain rfl:i=n:=by omega
   rw[yP,he hp];rfl
  |succ k ih=>
   intro i hi hk hp;rw[yP,h i hi (by omega) hp,Hi,Qb];cases ht:t i with
   |some r=>rfl
   |none=>
    simp only
    exact ih (i+1) (by omega) (by omega) fun j h1 h2=>by
     rcases Jf j i with h3|h3
     ·exact hp j h1 h3
     ·rw[show j=i from by omega];exact ht
 exact key (n-i0) i0 (J7 _) (by omega) fun j h1 h2=>by omega
theorem zRv{n:Nat}{b:Nat→Bool}:zNV ((Ga 0 n).findSome? (fun i=>if b i then jr else jq jt))=if(Ju n).all b then .inl ()else .inr jt:=by
 have key:∀l:List Nat,zNV (l.findSome? (fun i=>if b i then jr else jq jt))=if l.all b then .inl ()else .inr jt:=by
  intro l
  induction l with
  |nil=>rfl
  |cons x l ih=>
   rw[Qb,Q4];cases hb:b x
   ·rfl
   ·simpa using ih
 rw[key,List.range_eq_range']
theorem zPa{body:Int→Option (Int⊕(Unit⊕Bool))}(n:Nat)(b:Nat→Bool)
  (h:∀i,i<n→(∀j,j<i→b j=js)→body (i:Int)=jq (if b i then .inl ((i+1:Nat):Int)else .inr (.inr jt)))
  (he:(∀j,j<n→b j=js)→body (n:Int)=jq (.inr (.inl ()))):
  zC body 0=jq (if(Ju n).all b then .inl ()else .inr jt):=by
 have:=zOZ (body:=body) n (fun i=>if b i then jr else jq jt) 0 (Jw _) (fun i _ hi hp=>by
  rw[h i hi fun j hj=>by
   have:=hp j (Jw _) hj;split at this
   ·assumption
   ·cases this]
  cases b i<;>rfl) (fun hp=>he fun j hj=>by
   have:=hp j (Jw _) hj;split at this
   ·assumption
   ·cases this)
 rw[Nat.sub_zero]at this;exact this.trans (congrArg jq (zRv (n:=n) (b:=b)))
theorem zUk{α:Type}[BEq α]{t:α→α→Option Bool}{body:Int→Option (Int⊕(Unit⊕Bool))}{x y:List α}
  (hb:∀i,body i=cond (decide (i<(x.length:Int))) ((ixO x i).bind fun v1=>(ixO y i).bind fun v2=>(t v1 v2).bind fun r3=>cond (!r3) (jq (.inr (.inr jt))) ((rng (i+1)).bind fun v4=>jq (.inl v4))) (jq (.inr (.inl ()))))
  (hl:x.length≤68719476736)(tt:x.length=y.length)(ht:∀u∈x,∀v∈y,t u v=jq (u==v)):zC body 0=jq (if x==y then .inl ()else .inr jt):=by
 have h:=zPa (body:=body) x.length (fun i=>match x[i]?,y[i]? with|some u,jq v=>u==v|_,_=>js) (fun i hi _=>by
  have eL:i<y.length:=by omega
  rw[hb];simp only[jw (show((i:Int))<(x.length:Int)from by omega),zJ];rw[uR hi,uR eL];simp only[bs,ht _ (Jt hi) _ (Jt eL),J4 hi,J4 eL];cases x[i]==y[i]
  ·rfl
  ·simp only[Jo,zK,if_true]
   rw[zH (by omega) (by omega),cs];rfl) (fun _=>by
  rw[hb];simp only[ju (show¬((x.length:Int))<(x.length:Int)from by omega),zK])
 rw[h]
 congr 2
 have key:∀(x y:List α),x.length=y.length→((Ju x.length).all (fun i=>match x[i]?,y[i]? with|some u,jq v=>u==v|_,_=>js))=(x==y):=by
  intro x
  induction x with
  |nil=>intro y hy;cases y with|nil=>rfl|cons _ _=>simp at hy
  |cons u x ih=>
   intro y hy;cases y with
   |nil=>simp at hy
   |cons v y=>
    rw[Jx,Qj,Q4,List.all_map];simp only[Ul,Function.comp_def,Jaq];rw[ih y (by simpa using hy)];rfl
 rw[key x y tt]
theorem yAo{α:Type}[BEq α]{t:α→α→Option Bool}{f:Option Bool}{body:Int→Option (Int⊕(Unit⊕Bool))}{x y:List α}
  (hf:f=cond ((x.length:Int) != (y.length:Int)) (jq jt) ((zC body 0).bind fun r=>match r with|.inl _=>jq js|.inr r=>jq r))
  (hb:∀i,body i=cond (decide (i<(x.length:Int))) ((ixO x i).bind fun v1=>(ixO y i).bind fun v2=>(t v1 v2).bind fun r3=>cond (!r3) (jq (.inr (.inr jt))) ((rng (i+1)).bind fun v4=>jq (.inl v4))) (jq (.inr (.inl ()))))
  (hl:x.length≤68719476736)(ht:∀u∈x,∀v∈y,t u v=jq (u==v)):f=jq (x==y):=by
 rw[hf]
 by_cases tt:x.length=y.length
 ·rw[zUk hb hl tt ht]
  have:((x.length:Int) != (y.length:Int))=jt:=by simp[tt]
  rw[this];cases x==y<;>rfl
 ·have:((x.length:Int) != (y.length:Int))=js:=by simp;omega
  rw[this];have h2:(x==y)=jt:=by
   have key:∀(x y:List α),x.length≠y.length→(x==y)=jt:=by
    intro x
    induction x with
    |nil=>intro y hy;cases y with|nil=>simp at hy|cons _ _=>rfl
    |cons u x ih=>
     intro y hy;cases y with
     |nil=>rfl
     |cons v y=>
      show(u==v&&x==y)=jt;rw[ih y (by simpa using hy),Bool.and_false]
   exact key x y tt
  rw[h2];rfl
end Go.Pl

namespace Go.Pl
open Go Go.Ab
end Go.Pl

namespace Go.Pl
open Go Go.Ab Go.Wk
abbrev VL{α:Type}(V:α→Prop)(xs:List α):Prop:=xs.length≤maxLen∧ ∀x∈xs,V x
abbrev c1(x:List Int):Nat:=x.length
end Go.Pl

namespace Go.Pl
open Go Go.Ab Go.Wk
def IsB(o:Option Bool)(P:Prop):Prop:=(o=jq js∧P)∨(o=jq jt∧ ¬P)
theorem IsB.iff{o:Option Bool}{P Q:Prop}(h:IsB o P)(hpq:P↔Q):IsB o Q:=by grind
theorem IsB.of_bool{b:Bool}{P:Prop}(h:b=js↔P):IsB (jq b) P:=by
 cases b
 ·exact .inr (by grind)
 ·exact .inl ⟨rfl,h.1 rfl⟩
theorem chk{ρ:Type}{body:Int→Option (Int⊕(Unit⊕ρ))}(n i0:Nat)(hn:i0≤n)(P:Nat→Prop)(bad:Nat→ρ)
  (h:∀i,i0≤i→i<n→(∀j,i0≤j→j<i→P j)→(body (i:Int)=jq (.inl ((i+1:Nat):Int))∧P i)∨(body (i:Int)=jq (.inr (.inr (bad i)))∧ ¬P i))
  (he:body (n:Int)=jq (.inr (.inl ()))):
  (zC body (i0:Int)=jq (.inl ())∧ ∀j,i0≤j→j<n→P j)∨ ∃i,i0≤i∧i<n∧zC body (i0:Int)=jq (.inr (bad i))∧ ¬P i:=by
 have key:∀k i,i0≤i→i+k=n→(∀j,i0≤j→j<i→P j)→(zC body (i:Int)=jq (.inl ())∧ ∀j,i0≤j→j<n→P j)∨ ∃q,i0≤q∧q<n∧zC body (i:Int)=jq (.inr (bad q))∧ ¬P q:=by
  intro k
  induction k with
  |zero=>
   intro i hi hk hp;obtain rfl:i=n:=by omega
   grind[yP]
  |succ k ih=>
   intro i hi hk hp;rcases h i hi (by omega) hp with⟨h1,h2⟩|⟨h1,h2⟩
   ·have:=ih (i+1) (by omega) (by omega) (by grind)
    rw[yP,h1];exact this
   grind[yP]
 exact key (n-i0) i0 (J7 _) (by omega) fun j a b=>by omega
theorem zFi{f:Option Bool}{body:Int→Option (Int⊕(Unit⊕Bool))}(n:Nat)(P:Nat→Prop)
  (hf:f=(zC body 0).bind fun r=>match r with|.inl _=>jq js|.inr r=>jq r)
  (h:∀i,i<n→(∀j,j<i→P j)→(body (i:Int)=jq (.inl ((i+1:Nat):Int))∧P i)∨(body (i:Int)=jq (.inr (.inr jt))∧ ¬P i))
  (he:body (n:Int)=jq (.inr (.inl ()))):IsB f (∀i,i<n→P i):=by
 rcases chk n 0 (Jw _) P (fun _=>jt) (fun i _ hi hp=>h i hi fun j hj=>hp j (Jw _) hj) he with⟨h1,h2⟩|⟨i,_,hi,h1,h2⟩
 ·refine .inl ⟨?_,fun i hi=>h2 i (Jw _) hi⟩
  rw[hf];rw[show((0:Nat):Int)=0 from rfl]at h1;rw[h1,bs]
 ·refine .inr ⟨?_,fun hp=>h2 (hp i hi)⟩
  rw[hf];rw[show((0:Nat):Int)=0 from rfl]at h1;rw[h1,bs]
theorem zDl{o:Option Bool}{P:Prop}{ρ:Type}{bad:ρ}{i:Nat}{g:Option (Int⊕(Unit⊕ρ))}(h:IsB o P)(hi:i<9223372036854775807)
  (hg:g=o.bind fun r=>cond (!r) (jq (.inr (.inr bad))) ((rng ((i:Int)+1)).bind fun v=>jq (.inl v))):(g=jq (.inl ((i+1:Nat):Int))∧P)∨(g=jq (.inr (.inr bad))∧ ¬P):=by
 subst hg;rcases h with⟨h1,h2⟩|⟨h1,h2⟩
 ·refine .inl ⟨?_,h2⟩
  rw[h1,bs,Jo,zK,zH (by omega) (by omega),bs,cs]
 grind
theorem xH{i n:Nat}(h:i<n):decide ((i:Int)<(n:Int))=js:=by grind
theorem wW{n:Nat}:decide ((n:Int)<(n:Int))=jt:=by simp
theorem sM(x a b:Int):IsB (zHE x a b) (a≤x∧x≤b):=by
 unfold zHE
 by_cases h:x≥a
 ·rw[jw h,zJ];grind[IsB.of_bool]
 ·rw[ju h,zK];exact .inr ⟨rfl,by omega⟩
theorem zCH(x a b:Int):IsB (zHw x a b) (a≤x∧x≤b):=sM x a b
def Prime(p:Int):Prop:=p=2∨p=3∨p=5∨p=7
theorem zCd(x:Int):IsB (zPD x) (Prime x):=by
 unfold zPD Prime
 by_cases h2:x=2
 ·subst h2;exact .inl ⟨rfl,.inl rfl⟩
 ·rw[show(x==2)=jt from by grind,zK]
  by_cases h3:x=3
  ·subst h3;exact .inl (by simp)
  ·rw[show(x==3)=jt from by grind,zK]
   by_cases h5:x=5
   ·subst h5;exact .inl (by simp)
   ·rw[show(x==5)=jt from by grind,zK]
    grind[IsB.of_bool]
theorem zDS(x:Int):IsB (zLv x) (Prime x):=zCd x
abbrev at0(v:List Int)(i:Nat):Int:=v.getD i 0
theorem xV{v:List Int}{i:Nat}(h:i<v.length):ixO v (i:Int)=jq (at0 v i):=by rw[uR h,at0,J2,J4 h];rfl
def yBH(os v:List Int):Prop:=v.length=os.length∧ ∀i,i<v.length→0≤at0 v i∧at0 v i≤at0 os i-1
def Exp(os v:List Int)(k:Nat):Prop:=yBH os v∧ ∀i,i≤k→at0 v i=0
def Os(os:List Int):Prop:=os.length≤14∧ ∀i,i<os.length→Prime (at0 os i)
theorem Prime.pos{p:Int}(h:Prime p):2≤p∧p≤7:=by unfold Prime at h;omega
theorem zKK{v:List Int}(hl:v.length≤14):IsB (zPE v) (∀i,i<v.length→at0 v i=0):=by
 refine zFi v.length (fun i=>at0 v i=0) rfl (fun i hi _=>?_) ?_
 ·refine zDl (o:=jq (at0 v i==0)) (IsB.of_bool (by simp)) (by omega) ?_
  unfold zID;rw[xH hi,zJ,xV hi,bs,bs];rfl
 ·unfold zID
  simp
theorem zCI{os v:List Int}{k:Nat}(ho:Os os)(hk:k<os.length):IsB (zMR os v k) (Exp os v k):=by
 have h6:=ho.1;unfold zMR
 by_cases h:v.length=os.length
 ·rw[show((v.length:Int) != (os.length:Int))=jt from by simp[h],zK]
  refine(zFi v.length (fun i=>(0≤at0 v i∧at0 v i≤at0 os i-1)∧(i≤k→at0 v i=0)) rfl (fun i hi _=>?_) ?_).iff ⟨fun g=>⟨⟨h,by grind⟩,by grind⟩,fun g i hi=>⟨g.1.2 i hi,fun hk=>g.2 i hk⟩⟩
  ·have hp:=(ho.2 i (by omega)).pos
   unfold zLw;rw[xH hi,zJ,xV hi,bs,xV (by omega),bs,zH (by omega) (by omega),bs];rcases zCH (at0 v i) 0 (at0 os i-1)with⟨h1,h2⟩|⟨h1,h2⟩
   ·rw[h1,bs,Jo,zK]
    by_cases h3:(i:Int)≤(k:Int)
    ·rw[jw h3,zJ,bs]
     by_cases h4:at0 v i=0
     ·rw[show(at0 v i != 0)=jt from by grind,zK,zH (by omega) (by omega),bs,cs]
      grind
     grind
    ·rw[ju h3,zK,zH (by omega) (by omega),bs,cs]
     grind
   grind
  ·unfold zLw
   simp
 ·rw[show((v.length:Int) != (os.length:Int))=js from by simp;omega,zJ]
  exact .inr ⟨rfl,fun g=>h g.1.1⟩
end Go.Pl

namespace Go.Pl
open Go Go.Ab Go.Wk
theorem zF7{a b:Int}(h:a=b):(a != b)=jt:=by simp[h]
theorem zE0{a b:Int}(h:a≠b):(a != b)=js:=by simp[h]
def pr(os:List Int):Nat→Int
 |0=>1
 |i+1=>pr os i*at0 os i
def cp(os:List Int):Nat→Int
 |0=>1
 |i+1=>if cp os i≤729 then cp os i*at0 os i else cp os i
theorem zJs{os:List Int}:∀{i:Nat},(∀j,j<i→Prime (at0 os j))→1≤pr os i
 |0,_=>by simp[pr]
 |i+1,h=>by have h1:=zJs (os:=os) (i:=i) (by grind);have h2:=(h i (by omega)).pos;simp only[pr];have:(1:Int)*1≤pr os i*at0 os i:=H0 h1 (by omega) (by omega) (by omega);omega
theorem zUl{os:List Int}{i:Nat}(h:∀j,j≤i→Prime (at0 os j)):pr os i≤pr os (i+1):=by have h1:=zJs (os:=os) (i:=i) (by grind);have h2:=(h i (J7 _)).pos;simp only[pr];have:pr os i*1≤pr os i*at0 os i:=Int.mul_le_mul_of_nonneg_left (by omega) (by omega);omega
theorem zRw{os:List Int}:∀{i:Nat},(∀j,j<i→Prime (at0 os j))→(cp os i=pr os i∧pr os i≤729∨729<cp os i∧cp os i≤5103∧729<pr os i)
 |0,_=>by simp[cp,pr]
 |i+1,h=>by
  have h0:∀j,j<i→Prime (at0 os j):=by grind
  have h2:=(h i (by omega)).pos;have h3:=zUl (os:=os) (i:=i) (by grind);have hpp:=zJs h0;simp only[cp];rcases zRw h0 with⟨h1,h4⟩|⟨h1,h4,h5⟩
  ·rw[h1,if_pos h4]
   have h6:pr os i*at0 os i≤729*7:=H0 h4 h2.2 (by omega) (by omega);simp only[pr]at h3 ⊢
   grind
  omega
def zKL(x:SPr)(i:Nat):Prop:=Exp x.zA (x.yB.getD i []) i∧(x.zD.getD i []).length+i+1=x.zA.length∧ ∀j,j<(x.zD.getD i []).length→Exp x.zA ((x.zD.getD i []).getD j []) i
structure zD9 (x:SPr):Prop where
 os:True∧ ∀i,i<x.zA.length→Prime (at0 x.zA i)
 pl:x.yB.length=x.zA.length
 cl:x.zD.length=x.zA.length
 tl:∀i,i<x.zA.length→zKL x i
structure Pres (x:SPr):Prop where
 os:Os x.zA
 pl:x.yB.length=x.zA.length
 cl:x.zD.length=x.zA.length
 tl:∀i,i<x.zA.length→zKL x i
theorem Pres.w{x:SPr}(h:Pres x):zD9 x:=⟨⟨trivial,h.os.2⟩,h.pl,h.cl,h.tl⟩
structure zIr (x:SPr):Prop extends Pres x where
 n6:x.zA.length≤6
 pr:pr x.zA x.zA.length≤729
theorem yO{α:Type}{v:List α}{i:Nat}(d:α)(h:i<v.length):ixO v (i:Int)=jq (v.getD i d):=by grind[uR]
theorem zMl{x:SPr}(ho:Os x.zA)(hp:x.yB.length=x.zA.length)(hc:x.zD.length=x.zA.length){i:Nat}(hi:i<x.zA.length):
  (zJN x i=jq (.inl ((i+1:Nat):Int))∧zKL x i)∨(zJN x i=jq (.inr (.inr jt))∧ ¬zKL x i):=by
 have h6:=ho.1;unfold zJN;rw[xH hi,zJ,yO [] (by omega),bs];rcases zCI (v:=x.yB.getD i []) ho hi with⟨h1,h2⟩|⟨h1,h2⟩
 ·rw[h1,bs,Jo,zK,yO [] (by omega),bs,zH (by omega) (by omega),bs,zH (by omega) (by omega),bs]
  by_cases hl:(x.zD.getD i []).length+i+1=x.zA.length
  ·rw[zF7 (by omega),zK]
   rcases chk (body:=zMS x i) (x.zD.getD i []).length 0 (Jw _) (fun j=>Exp x.zA ((x.zD.getD i []).getD j []) i) (fun _=>jt) (fun j _ hj _=>by
     refine zDl (zCI ho hi) (by omega) ?_;unfold zMS;rw[yO [] (by omega),bs,xH hj,zJ,bs,yO [] hj,bs]) (by
     unfold zMS;rw[yO [] (by omega),bs,wW,zK])with⟨g1,g2⟩|⟨j,_,hj,g1,g2⟩
   ·rw[show((0:Nat):Int)=0 from rfl]at g1
    rw[g1,bs];simp only
    rw[zH (by omega) (by omega),bs,cs];exact .inl ⟨rfl,h2,hl,by grind⟩
   ·rw[show((0:Nat):Int)=0 from rfl]at g1
    rw[g1,bs];exact .inr ⟨rfl,fun g=>g2 (g.2.2 j hj)⟩
  ·rw[zE0 (by omega),zJ]
   exact .inr ⟨rfl,fun g=>hl g.2.1⟩
 ·rw[h1,bs,K2,zJ]
  exact .inr ⟨rfl,fun g=>h2 g.1⟩
theorem zE1{os:List Int}(ho:Os os):f_T os=jq (cp os os.length):=by
 have h6:=ho.1;unfold f_T;rw[show(1,0)=(fun i=>(cp os i,(i:Int))) 0 from rfl,zU (body:=zP9 os) (r:=cp os os.length) (fun i=>(cp os i,(i:Int))) os.length (fun i hi=>by
  have hp:=(ho.2 i hi).pos;have hc:=zRw (os:=os) (i:=i) fun j hj=>ho.2 j (by omega)
  have hpp:=zJs (os:=os) (i:=i) fun j hj=>ho.2 j (by omega)
  unfold zP9;rw[xH hi,zJ];simp only[cp]
  by_cases h:cp os i≤729
  ·have h4:cp os i*at0 os i≤729*7:=H0 h hp.2 (by omega) (by omega)
   have h5:1*1≤cp os i*at0 os i:=H0 (by omega) (by omega) (by omega) (by omega);rw[jw h,zJ,xV hi,bs,zH (by omega) (by omega),bs,zH (by omega) (by omega),bs,cs,if_pos h]
  ·rw[ju h,zK,zH (by omega) (by omega),bs,cs,if_neg h]) (by
  unfold zP9;simp),bs]
theorem qG{x:SPr}(hl:x.zA.length≤1048576):IsB (f_n x) (zIr x):=by
 unfold f_n
 by_cases h6:x.zA.length≤6
 ·rw[ju (by omega),zK]
  by_cases hp:x.yB.length=x.zA.length
  ·rw[zF7 (by omega),zK]
   by_cases hc:x.zD.length=x.zA.length
   ·rw[zF7 (by omega),zK]
    rcases chk (body:=zPA x) x.zA.length 0 (Jw _) (fun i=>Prime (at0 x.zA i)) (fun _=>jt) (fun i _ hi _=>by
      refine zDl (zDS _) (by omega) ?_;unfold zPA;rw[xH hi,zJ,xV hi,bs]) (by
      unfold zPA;simp)with⟨g1,g2⟩|⟨i,_,hi,g1,g2⟩
    ·rw[show((0:Nat):Int)=0 from rfl]at g1
     have ho:Os x.zA:=⟨by omega,by grind⟩;have hcp:=zRw (os:=x.zA) (i:=x.zA.length) ho.2;rw[g1,bs];simp only
     rw[zE1 ho,bs]
     by_cases h7:cp x.zA x.zA.length> 729
     ·rw[jw h7,zJ]
      exact .inr ⟨rfl,fun g=>by have:=g.pr;omega⟩
     ·rw[ju h7,zK]
      exact(zFi (f:=(zC (zJN x) 0).bind fun r=>match r with|.inl _=>jq js|.inr r=>jq r) x.zA.length (zKL x) rfl (by grind[zMl]) (by unfold zJN;simp)).iff ⟨fun g=>⟨⟨ho,hp,hc,g⟩,h6,by omega⟩,fun g=>g.tl⟩
    ·rw[show((0:Nat):Int)=0 from rfl]at g1
     rw[g1,bs];exact .inr ⟨rfl,fun g=>g2 (g.os.2 i hi)⟩
   ·rw[zE0 (by omega),zJ]
    exact .inr ⟨rfl,fun g=>hc g.cl⟩
  ·rw[zE0 (by omega),zJ]
   exact .inr ⟨rfl,fun g=>hp g.pl⟩
 ·rw[jw (by omega),zJ]
  exact .inr ⟨rfl,fun g=>h6 g.n6⟩
end Go.Pl

namespace Go.Pl
open Go Go.Ab Go.Wk Go.Pc
def lvl(x:SPr)(i:Nat):Lvl:=⟨at0 x.zA i,(x.yB.getD i []).drop (i+1),(x.zD.getD i []).map (·.drop (i+1))⟩
def suf(x:SPr)(k:Nat):Pcp:=(Ga k (x.zA.length-k)).map (lvl x)
theorem wK(x:SPr)(k:Nat):(suf x k).length=x.zA.length-k:=by simp[suf]
theorem yY{x:SPr}{k:Nat}(h:k<x.zA.length):suf x k=lvl x k::suf x (k+1):=by unfold suf;rw[show x.zA.length-k=(x.zA.length-(k+1))+1 from by omega,Hi,Jm]
theorem sT{x:SPr}{k:Nat}(h:x.zA.length≤k):suf x k=[]:=by unfold suf;simp_all
theorem zBM{os v:List Int}{k:Nat}(h:Exp os v k)(hk:k<os.length):v=zeros (k+1)++v.drop (k+1):=by
 have h1:=h.1.1;apply Kl;intro i;rw[Kb];simp only[zeros,Jl,K1,Ky];split
 ·rename_i hi
  have h2:=h.2 i (by omega)
  grind
 grind
theorem zXP{x:SPr}:∀(d k:Nat)(v:List Int),k+d=x.zA.length→v.length=d→(∀i,i<d→0≤at0 v i∧at0 v i≤at0 x.zA (k+i)-1)→V (suf x k) v
 |0,k,v,hk,hv,_=>by rw[sT (by omega)];simpa[V]using hv
 |d+1,k,v,hk,hv,h=>by
  rw[yY (by omega)]
  match v,hv with
  |a::v,hv=>
   have h0:=h 0 (by omega);simp only[at0,Ja4,Jan]at h0;refine⟨⟨h0.1,by simp only[lvl,at0];omega⟩,zXP d (k+1) v (by omega) (by grind) fun i hi=>?_⟩
   grind
theorem zKM{x:SPr}{v:List Int}{k:Nat}(h:Exp x.zA v k)(hk:k<x.zA.length):V (suf x (k+1)) (v.drop (k+1)):=by
 have h1:=h.1.1;refine zXP (x.zA.length-(k+1)) (k+1) _ (by omega) (by grind) fun i hi=>?_
 have:=h.1.2 (k+1+i) (by omega)
 grind
theorem zD9.ok{x:SPr}(h:zD9 x):∀(d k:Nat),k+d=x.zA.length→Pc.Ok (suf x k)
 |0,k,hk=>by rw[sT (by omega)];simp only[Pc.Ok]
 |d+1,k,hk=>by
  rw[yY (by omega)];obtain⟨t1,t2,t3⟩:=h.tl k (by omega);refine⟨by simp only[lvl];have:=(h.os.2 k (by omega)).pos;omega,zKM t1 (by omega),?_,fun c hc=>?_,zD9.ok h d (k+1) (by omega)⟩
  ·grind[wK,lvl]
  ·simp only[lvl,Jh]at hc
   obtain⟨u,hu,rfl⟩:=hc;obtain⟨j,hj,rfl⟩:=Jah.1 hu
   grind[zKM]
theorem zD9.okAt{x:SPr}(h:zD9 x){k:Nat}(hk:k≤x.zA.length):Pc.Ok (suf x k):=h.ok (x.zA.length-k) k (by omega)
theorem Pres.okAt{x:SPr}(h:Pres x){k:Nat}(hk:k≤x.zA.length):Pc.Ok (suf x k):=h.w.okAt hk
theorem yN(n:Nat):(zeros n).length=n:=by simp[zeros]
theorem zF8(k:Nat):zeros (k+1)=zeros k++[0]:=by simp[zeros,Hb]
theorem zGT{k:Nat}{a b:Int}{v:Vec}:(zeros k++a::v).set k b=zeros k++b::v:=by rw[G8 _ _ (by grind[yN]),yN,L8,L5]
theorem zGU{k:Nat}{a:Int}{v:Vec}:ixO (zeros k++a::v) (k:Int)=jq a:=by rw[tL,Je (by grind[yN]),yN,L8];rfl
theorem zB2{k:Nat}{v:Vec}:zeros k++0::v=zeros (k+1)++v:=by rw[zF8,Ji];rfl
theorem uS{v:List Int}(h:v.length≤1000000):f_v v=jq v:=by grind[f_v,zT]
end Go.Pl

namespace Go.Pl
open Go Go.Ab Go.Wk Go.Pc
theorem zE2{m:Vec→Vec→Vec}:∀(cs:List Vec)(x:Vec)(i:Nat)(acc:Vec),i<cs.length→i<x.length→
  img m (cs.take (i+1)) (x.take (i+1)) acc=iter (at0 x i).toNat (fun v=>m v (cs.getD i [])) (img m (cs.take i) (x.take i) acc)
 | [],_,_,_,h,_=>by simp at h
 |_::_,[],_,_,_,h=>by simp at h
 |c::cs,a::x,0,acc,_,_=>by rfl
 |c::cs,a::x,i+1,acc,h,h'=>by simp only[L4,img,at0,List.getD_cons_succ];exact zE2 cs x i _ (by grind) (by grind)
theorem zBb{α β:Type}{body:α×Int→Option ((α×Int)⊕α)}{S:β→Prop}(e:β→α)(g:β→β)(n:Int)(hn:0≤n)(hS:∀a,S a→S (g a))
  (h:∀a(i:Nat),S a→(i:Int)<n→body (e a,(i:Int))=jq (.inl (e (g a),((i+1:Nat):Int))))(he:∀a,S a→body (e a,n)=jq (.inr (e a))){a:β}(ha:S a):
  zC body (e a,0)=jq (e (iter n.toNat g a)):=by
 have pi:∀k,S (iter k g a):=fun k=>sA (S:=S) hS k ha
 exact zU (body:=body) (r:=e (iter n.toNat g a)) (fun i=>(e (iter i g a),(i:Int))) n.toNat (by grind[vK]) (by grind)
theorem zRx{k i:Nat}{v:Vec}(h:i<v.length):ixO (zeros k++v) ((k+i:Nat):Int)=jq (at0 v i):=by rw[tL,Je (by grind[yN]),yN,show k+i-k=i from by omega,J4 h,at0,J2,J4 h];rfl
theorem zFj{x:SPr}(ho:Os x.zA):∀(d k:Nat)(v:List Int),k+d=x.zA.length→V (suf x k) v→v.length=d∧ ∀i,i<d→0≤at0 v i∧at0 v i<at0 x.zA (k+i)∧at0 v i≤6
 |0,k,v,hk,hv=>by
  rw[sT (by omega)]at hv;simp only[V]at hv
  grind
 |d+1,k,v,hk,hv=>by
  rw[yY (by omega)]at hv
  match v,hv with
  |a::v,hv=>
   obtain⟨h1,h2⟩:=zFj ho d (k+1) v (by omega) hv.2;refine⟨by simp[h1],fun i hi=>?_⟩;cases i with
   |zero=>
    have h3:=hv.1;simp only[lvl]at h3;have:=(ho.2 k (by omega)).pos
    grind
   |succ i=>
    grind
theorem zJt{x:SPr}(h:Pres x){k i:Nat}(hk:k<x.zA.length)(hi:i<x.zA.length-(k+1)):
  ∃c,ixO x.zD (k:Int)=jq (x.zD.getD k [])∧ixO (x.zD.getD k []) (i:Int)=jq (zeros (k+1)++c)∧V (suf x (k+1)) c∧(lvl x k).cs.getD i []=c:=by
 obtain⟨t1,t2,t3⟩:=h.tl k hk;have hc:=h.cl
 grind[yO,zKM,zBM,lvl]
def FAt(x:SPr)(k:Nat)(g:SPr→Int→List Int→List Int→Option (List Int)):Prop:=
 ∀a b,V (suf x k) a→V (suf x k) b→g x k (zeros k++a) (zeros k++b)=jq (zeros k++mul (suf x k) a b)
def FIm(x:SPr)(k:Nat)(g:SPr→Int→List Int→Option (List Int)):Prop:=
 ∀v,V (suf x (k+1)) v→g x k (zeros (k+1)++v)=jq (zeros (k+1)++sig (suf x (k+1)) (lvl x k) v)
theorem zMm{x:SPr}(h:Pres x){k:Nat}(hk:k<x.zA.length){g:SPr→Int→List Int→List Int→Option (List Int)}(hg:FAt x (k+1) g):FIm x k (b_g g):=by
 intro v hv;have h6:=h.os.1;have ok:=h.okAt (k:=k+1) (by omega);obtain⟨mG,hvr⟩:=zFj h.os (x.zA.length-(k+1)) (k+1) v (by omega) hv;have gv:=wK x (k+1);have gK:(lvl x k).cs.length=x.zA.length-(k+1):=by have:=h.okAt (k:=k) (by omega);rw[yY hk]at this;rw[this.2.2.1,gv]
 have eD:∀c∈(lvl x k).cs,V (suf x (k+1)) c:=by have:=h.okAt (k:=k) (by omega);rw[yY hk]at this;exact this.2.2.2.1
 have hA:∀i,V (suf x (k+1)) (img (mul (suf x (k+1))) ((lvl x k).cs.take i) (v.take i) (zeros (suf x (k+1)).length)):=fun i=>
  zAP (wY ok) _ _ (by grind) (vT ok)
 unfold b_g;rw[xJ (by omega),bs,zH (by omega) (by omega),bs,cs];have hz:J1 x.zA.length (0:Int)=zeros (k+1)++zeros (suf x (k+1)).length:=by rw[gv];simp only[zeros,K3];congr 1;omega
 rw[hz];have:=zU (body:=zSu g x k (zeros (k+1)++v)) (r:=zeros (k+1)++sig (suf x (k+1)) (lvl x k) v)
  (fun i=>(zeros (k+1)++img (mul (suf x (k+1))) ((lvl x k).cs.take i) (v.take i) (zeros (suf x (k+1)).length),((k+1+i:Nat):Int))) (x.zA.length-(k+1)) (fun i hi=>by
  have hr:=hvr i hi;obtain⟨c,c1,c2,c3,c4⟩:=zJt h hk hi;unfold zSu;rw[jw (by omega),zJ];rw[zBb (S:=V (suf x (k+1))) (body:=zSt g x k (zeros (k+1)++v) (zeros (k+1)++img (mul (suf x (k+1))) ((lvl x k).cs.take i) (v.take i) (zeros (suf x (k+1)).length),((k+1+i:Nat):Int))) (fun u=>zeros (k+1)++u) (fun u=>mul (suf x (k+1)) u c) (at0 v i) hr.1 (by grind[wY]) (fun u q hu hq=>by
   unfold zSt;simp only
   rw[zRx (by omega),bs,jw hq,zJ,zH (by omega) (by omega),bs,c1,bs,zH (by omega) (by omega),bs,zH (by omega) (by omega),bs,
    show(((k+1+i:Nat):Int)-(k:Int)-1)=(i:Int)from by omega,c2,bs,cs,hg u c hu c3,bs,zH (by omega) (by omega),bs,cs]) (fun u hu=>by
   unfold zSt;simp only
   rw[zRx (by omega),bs,ju (by omega),zK]) (hA i),bs,zH (by omega) (by omega),bs,cs]
  rw[zE2 _ _ _ _ (by omega) (by omega),c4];rfl) (by
  unfold zSu;rw[ju (by omega),zK,Jg (by omega),Jg (by omega)];rfl)
 grind[img]
theorem zUm{x:SPr}(h:Pres x){k:Nat}(hk:k<x.zA.length){g:SPr→Int→List Int→List Int→Option (List Int)}{gi:SPr→Int→List Int→Option (List Int)}(hg:FAt x (k+1) g)(hi:FIm x k gi):FAt x k (b_b gi g):=by
 intro a b ha hb;have h6:=h.os.1;have hp:=(h.os.2 k hk).pos;have ok:=h.okAt (k:=k+1) (by omega);have ok0:=h.okAt (k:=k) (by omega);obtain⟨hal,har⟩:=zFj h.os (x.zA.length-k) k a (by omega) ha;obtain⟨hbl,hbr⟩:=zFj h.os (x.zA.length-k) k b (by omega) hb;rw[yY hk]at ha hb ok0;obtain⟨a0,a,rfl⟩:∃a0 a',a=a0::a':=by cases a with|nil=>grind|cons p q=>simp
 obtain⟨b0,b,rfl⟩:∃a0 a',b=a0::a':=by cases b with|nil=>grind|cons p q=>simp
 obtain⟨⟨a1,a2⟩,ha⟩:=ha;obtain⟨⟨b1,b2⟩,hb⟩:=hb;have fg:(lvl x k).o=at0 x.zA k:=rfl;rw[fg]at a2 b2;unfold b_b;rw[ju (by omega),zK,uS (by grind[yN]),bs,uS (by simp[yN]at hbl ⊢;omega),bs,zGU,bs,zGU,bs,J9,zGT,zGT,zB2,zB2];have fp:∀u,V (suf x (k+1)) u→V (suf x (k+1)) (sig (suf x (k+1)) (lvl x k) u):=by grind[zMk]
 have pi:V (suf x (k+1)) (iter b0.toNat (sig (suf x (k+1)) (lvl x k)) a):=sA fp _ ha;rw[zBb (S:=V (suf x (k+1))) (fun u=>zeros (k+1)++u) (sig (suf x (k+1)) (lvl x k)) b0 b1 fp (fun u q hu hq=>by
   unfold zUV;simp only
   rw[zGU,bs,jw hq,zJ,hi u hu,bs,zH (by omega) (by omega),bs,cs]) (fun u hu=>by
   unfold zUV;simp only
   rw[zGU,bs,ju (by omega),zK]) ha,bs,zH (by omega) (by omega),bs,cs,hg _ _ pi hb,bs,bs,bs,zH (by omega) (by omega),bs,xV hk,bs]
 have hm:=wY ok pi hb;have hml:=(zFj h.os (x.zA.length-(k+1)) (k+1) _ (by omega) hm).1;have own:∀u,V (suf x (k+1)) u→f_v (zeros (k+1)++u)=jq (zeros (k+1)++u):=fun u hu=>uS (by
  have:=(zFj h.os (x.zA.length-(k+1)) (k+1) _ (by omega) hu).1
  grind[yN])
 rw[yY hk,xG,fg]
 by_cases hge:a0+b0≥at0 x.zA k
 ·have t1:=(h.tl k hk).1
  have hw:=zKM t1 hk;have hwl:=h.pl;rw[jw hge,zJ,if_pos hge,bs,zH (by omega) (by omega),bs,bs,yO [] (by omega),bs,zBM t1 hk,hg _ _ hw hm,bs,own _ (wY ok hw hm),bs];rw[←zB2,zGU,bs,zGT];rfl
 ·rw[ju hge,zK,if_neg hge,own _ hm,bs,←zB2,zGU,bs,zGT]
theorem zIs{x:SPr}(h:Pres x):∀(d k:Nat),k+d=x.zA.length→(∀m,2*d+1≤m→FAt x k (zMT m))∧(1≤d→ ∀m,2*d≤m→FIm x k (zPB m))
 |0,k,hk=>by
  refine⟨fun m hm a b ha hb=>?_,fun h=>by omega⟩;have h6:=h.os.1;obtain⟨m,rfl⟩:∃m',m=m'+1:=⟨m-1,by omega⟩;show b_b _ _ x k _ _=_;unfold b_b;rw[jw (by omega),zJ,xJ (by omega),bs,sT (by omega)]
  grind[mul,zeros]
 |d+1,k,hk=>by
  obtain⟨h1,h2⟩:=zIs h d (k+1) (by omega);have hI:∀m,2*(d+1)≤m→FIm x k (zPB m):=fun m hm=>by obtain⟨m,rfl⟩:∃m',m=m'+1:=⟨m-1,by omega⟩;exact zMm h (by omega) (h1 m (by omega))
  refine⟨fun m hm=>?_,fun _=>hI⟩;obtain⟨m,rfl⟩:∃m',m=m'+1:=⟨m-1,by omega⟩;exact zUm h (by omega) (h1 m (by omega)) (hI m (by omega))
theorem zJu{x:SPr}(h:Pres x){k:Nat}(hk:k≤x.zA.length):FAt x k f_b:=fun a b ha hb=>
 zCA (2*(x.zA.length-k)+1) fun m hm=>(zIs h (x.zA.length-k) k (by omega)).1 m hm a b ha hb
end Go.Pl

namespace Go.Pl
open Go Go.Ab Go.Wk Go.Pc
theorem zCJ:∀{P Q:Pcp},Q<:+P→uZ P→uZ Q
 | [],Q,h,_=>by grind
 |l::P,Q,h,hc=>by
  rcases Q0.1 h with rfl|h
  ·exact hc
  ·exact zCJ h hc.1
theorem zIt:∀{P Q:Pcp},Q<:+P→Pc.Ok P→Pc.Ok Q
 | [],Q,h,_=>by grind
 |l::P,Q,h,hc=>by
  rcases Q0.1 h with rfl|h
  ·exact hc
  ·exact zIt h hc.2.2.2.2
theorem zMn(x:SPr)(k:Nat):suf x (k+1)<:+suf x k:=by grind[yY,sT]
theorem zE3{x:SPr}{k:Nat}(h:uZ (suf x k)):∀i,uZ (suf x (k+i))
 |0=>h
 |i+1=>zCJ (zMn x (k+i)) (zE3 h i)
theorem zF9{x:SPr}(h:Pres x){k:Nat}(hk:k≤x.zA.length)(hc:uZ (suf x k)):Grp (V (suf x k)) (mul (suf x k)) (zeros (suf x k).length):=zKJ _ (h.okAt hk) hc
theorem zFX{x:SPr}:∀(i k:Nat)(v:Vec),k+i≤x.zA.length→V (suf x k) v→ ∃q v',v=q++v'∧q.length=i∧V (suf x (k+i)) v'∧
  ∀a b,V (suf x (k+i)) a→V (suf x (k+i)) b→mul (suf x k) (q++a) (zeros i++b)=q++mul (suf x (k+i)) a b
 |0,k,v,_,hv=>⟨[],v,rfl,rfl,hv,fun a b _ _=>rfl⟩
 |i+1,k,v,hk,hv=>by
  rw[yY (by omega)]at hv
  match v,hv with
  |e::v,hv=>
   obtain⟨q,v',h1,h2,h3,h4⟩:=zFX i (k+1) v (by omega) hv.2;rw[show k+1+i=k+(i+1)from by omega]at h3 h4;refine⟨e::q,v',by grind,by simp[h2],h3,fun a b ha hb=>?_⟩;have he:=hv.1;rw[yY (by omega)];show mul (lvl x k::suf x (k+1)) (e::(q++a)) (0::(zeros i++b))=_;rw[xG,Kd,if_neg (by omega)]
   grind[iter]
def FTV(x:SPr)(k:Nat)(g:SPr→List Int→List Int→Option (List Int)):Prop:=
 ∀p v u,p.length=k→V (suf x k) v→V (suf x k) u→g x (p++v) (zeros k++u)=jq (p++mul (suf x k) v u)
def FTG(x:SPr)(k:Nat)(g:SPr→List Int→Int→Option (List Int)):Prop:=
 ∀p v,p.length=k→V (suf x k) v→g x (p++v) (k:Int)=jq (p++mul (suf x k) v (1::zeros (x.zA.length-(k+1))))
theorem zIu{x:SPr}(h:Pres x){k:Nat}(hk:k<x.zA.length){g:SPr→List Int→List Int→Option (List Int)}(hg:FTV x (k+1) g){t:Vec}(ht:V (suf x (k+1)) t)
  {body1:List Int×Int→Int→List Int×Int→Option ((List Int×Int)⊕List Int)}{body2:List Int×Int→Option ((List Int×Int)⊕List Int)}
  (mB:∀s,body2 s=cond (decide (s.2<(t.length:Int))) ((ixO t s.2).bind fun v17=>(zC (body1 s v17) (s.1,0)).bind fun r=>(rng (s.2+1)).bind fun v=>jq (.inl (r,v))) (jq (.inr s.1)))
  (da:∀s v q,body1 s v q=cond (decide (q.2<v)) ((ixO x.zD (k:Int)).bind fun cl=>(ixO cl s.2).bind fun c=>(g x q.1 c).bind fun r=>(rng (q.2+1)).bind fun w=>jq (.inl (r,w))) (jq (.inr q.1)))
  {p:Vec}(hp:p.length=k+1){u:Vec}(hu:V (suf x (k+1)) u):zC body2 (p++u,0)=jq (p++img (mul (suf x (k+1))) (lvl x k).cs t u):=by
 have h6:=h.os.1;have ok:=h.okAt (k:=k+1) (by omega);have ok0:=h.okAt (k:=k) (by omega);rw[yY hk]at ok0;obtain⟨py,ak⟩:=zFj h.os (x.zA.length-(k+1)) (k+1) t (by omega) ht;have gK:(lvl x k).cs.length=x.zA.length-(k+1):=by rw[ok0.2.2.1,wK]
 have hA:∀i,V (suf x (k+1)) (img (mul (suf x (k+1))) ((lvl x k).cs.take i) (t.take i) u):=fun i=>
  zAP (wY ok) _ _ (fun c hc=>ok0.2.2.2.1 c (by grind)) hu
 have:=zU (body:=body2) (r:=p++img (mul (suf x (k+1))) (lvl x k).cs t u) (fun i=>(p++img (mul (suf x (k+1))) ((lvl x k).cs.take i) (t.take i) u,(i:Int))) t.length (fun i hi=>by
  have hr:=ak i (by omega);obtain⟨c,c1,c2,c3,c4⟩:=zJt h hk (i:=i) (by omega);rw[mB];simp only
  rw[xH hi,zJ,xV hi,bs];rw[zBb (S:=V (suf x (k+1))) (fun u=>p++u) (fun u=>mul (suf x (k+1)) u c) (at0 t i) hr.1 (by grind[wY]) (fun u q hu hq=>by
   rw[da];simp only
   rw[jw hq,zJ,c1,bs,c2,bs,hg p u c hp hu c3,bs,zH (by omega) (by omega),bs,cs]) (by grind) (hA i),bs,zH (by omega) (by omega),bs,cs]
  rw[zE2 _ _ _ _ (by omega) (by omega),c4]) (by
  grind)
 grind[img]
theorem zWF{p v:Vec}{a:Int}{k:Nat}(hp:p.length=k):ixO (p++a::v) (k:Int)=jq a:=by rw[tL,Je (by omega),hp,L8];rfl
theorem p_set{p v:Vec}{a b:Int}{k:Nat}(hp:p.length=k):(p++a::v).set k b=p++b::v:=by simp_all
theorem zKN{x:SPr}(h:Pres x){k:Nat}(hk:k<x.zA.length)(hc:uZ (suf x (k+1))){g:SPr→List Int→List Int→Option (List Int)}(hg:FTV x (k+1) g):FTG x k (b_c g):=by
 intro p v hp hv;have h6:=h.os.1;have G:=zF9 h (k:=k+1) (by omega) hc;have ok:=h.okAt (k:=k+1) (by omega);have ok0:=h.okAt (k:=k) (by omega);obtain⟨mG,hvr⟩:=zFj h.os (x.zA.length-k) k v (by omega) hv;rw[yY hk]at hv ok0;obtain⟨e,t,rfl⟩:∃a0 a',v=a0::a':=by cases v with|nil=>grind|cons p q=>simp
 obtain⟨⟨e1,e2⟩,ht⟩:=hv;have fg:(lvl x k).o=at0 x.zA k:=rfl;rw[fg]at e2;have ff:=(h.os.2 k hk).pos;have py:=(zFj h.os (x.zA.length-(k+1)) (k+1) t (by omega) ht).1;have ct:=wK x (k+1);unfold b_c;have hs:zQ (p++e::t) ((k+1:Nat):Int) ((p++e::t).length:Int)=jq t:=by
  unfold zQ;rw[if_pos (by grind)];have e3:(p++e::t).drop (k+1)=t:=by rw[Ja0,H9 (by omega),hp,show k+1-k=1 from by omega];rfl
  grind[J9]
 have bB:f_H t=jq t:=by grind[f_H,zT]
 rw[zH (by omega) (by omega),bs,cs,hs,bs,bB,bs];have hz:=zU (body:=zSy k t) (r:=(p++[e])++zeros t.length) (fun i=>((p++[e])++(zeros i++t.drop i),(i:Int))) t.length (fun i hi=>by
  have hl:((p++[e])++zeros i).length=k+1+i:=by grind[yN]
  unfold zSy;simp only
  rw[xH hi,zJ,zH (by omega) (by omega),bs,zH (by omega) (by omega),bs,show(k:Int)+1+(i:Int)=((k+1+i:Nat):Int)from by omega,tL,←Ji,Je (by omega),hl,L8,
   Lv hi,Ul,bs,zH (by omega) (by omega),bs,cs,J9,G8 _ _ (by omega),hl,L8,L5,zF8]
  simp) (by
  unfold zSy;simp)
 simp only[zeros,Q9,H3,Jy,Ji,G7]at hz;rw[show((0:Nat):Int)=0 from rfl]at hz;rw[hz,bs,J9,zWF hp,bs,zH (by omega) (by omega),bs,bs,p_set hp,zWF hp,bs,xV hk,bs];have dF:J1 t.length (0:Int)=zeros (suf x (k+1)).length:=by rw[ct,py];rfl
 rw[yY hk,xG,fg];have gn:mul (suf x (k+1)) (iter (1:Int).toNat (sig (suf x (k+1)) (lvl x k)) t) (zeros (x.zA.length-(k+1)))=sig (suf x (k+1)) (lvl x k) t:=by rw[←ct];show mul _ (sig (suf x (k+1)) (lvl x k) t) _=_;exact G.oner (zMk ok0 ht)
 rw[gn,dF]
 by_cases heq:e+1=at0 x.zA k
 ·have t1:=(h.tl k hk).1
  have hw:=zKM t1 hk;have hwl:=h.pl;have dt:(p++[(0:Int)]).length=k+1:=by simp[hp]
  rw[show(e+1==at0 x.zA k)=js from by grind,zJ,if_pos (by omega),bs,yO [] (by omega),bs,p_set hp];have dE:p++0::zeros (suf x (k+1)).length=(p++[0])++zeros (suf x (k+1)).length:=by simp
  rw[dE,zBM t1 hk,hg _ _ _ dt G.ein hw,bs,G.onel hw];rw[zIu (body1:=zYw g x k) (body2:=zYx g x k t) h hk hg ht (fun _=>rfl) (fun _ _ _=>rfl) dt hw,bs];rw[zEz G.toMon _ _ ok0.2.2.2.1 hw,show e+1-at0 x.zA k=0 from by omega];simp only[Ji,G7];rfl
 ·have dt:(p++[e+1]).length=k+1:=by simp[hp]
  rw[show(e+1==at0 x.zA k)=jt from by grind,zK,if_neg (by omega)];have dE:p++(e+1)::zeros (suf x (k+1)).length=(p++[e+1])++zeros (suf x (k+1)).length:=by simp
  rw[dE,zIu (body1:=zYy g x k) (body2:=zYz g x k t) h hk hg ht (fun _=>rfl) (fun _ _ _=>rfl) dt G.ein,bs];simp only[Ji,G7];rfl
theorem zE4{n i:Nat}(h:i<n):tY n i=zeros i++1::zeros (n-(i+1)):=by
 have:zeros n=zeros i++0::zeros (n-(i+1)):=by
  simp only[zeros];rw[←Ks,K3]
  grind
 grind[tY,zGT]
theorem zE5(n:Nat):(wH n).length=n:=by simp[wH]
theorem zGV{n i:Nat}(h:i<n):(wH n).getD i []=tY n i:=by simp[wH,J2,h]
theorem zRy{x:SPr}(h:Pres x){k:Nat}(hk:k≤x.zA.length)(hc:uZ (suf x k)){g:SPr→List Int→Int→Option (List Int)}(hg:∀j,k≤j→j<x.zA.length→FTG x j g):FTV x k (b_a g):=by
 intro p v u hp hv hu;have h6:=h.os.1;have G:=zF9 h hk hc;have ok:=h.okAt hk;obtain⟨cD,ug⟩:=zFj h.os (x.zA.length-k) k u (by omega) hu;have ct:=wK x k;have hV1:∀j,j≤x.zA.length→j<x.zA.length→V (suf x j) (1::zeros (x.zA.length-(j+1))):=fun j hj ph=>by rw[yY ph];have:=(h.os.2 j ph).pos;refine⟨⟨by omega,by show 1<at0 x.zA j;omega⟩,?_⟩;rw[←wK];exact vT (h.okAt (by omega))
 have hUn:∀i,i<x.zA.length-k→V (suf x k) (tY (x.zA.length-k) i):=by grind[zFh]
 have hUs:∀c∈wH (x.zA.length-k),V (suf x k) c:=fun c hc=>by
  simp only[wH,Jh,K5]at hc
  grind
 have hA:∀i,V (suf x k) (img (mul (suf x k)) ((wH (x.zA.length-k)).take i) (u.take i) v):=fun i=>
  zAP (wY ok) _ _ (by grind) hv
 have iY:∀i w,i<x.zA.length-k→V (suf x k) w→g x (p++w) ((k+i:Nat):Int)=jq (p++mul (suf x k) w (tY (x.zA.length-k) i)):=fun i w hi hw=>by obtain⟨q,w',h1,h2,h3,h4⟩:=zFX i k w (by omega) hw;have h5:=hg (k+i) (by omega) (by omega) (p++q) w' (by grind) h3;rw[Ji,←h1]at h5;rw[h5,zE4 hi,h1,show x.zA.length-k-(i+1)=x.zA.length-(k+i+1)from by omega,h4 w' _ h3 (hV1 (k+i) (by omega) (by omega)),Ji]
 unfold b_a;have ai:(zeros k++u).length=x.zA.length:=by grind[yN]
 have:=zU (body:=zS0 g x (zeros k++u)) (r:=p++mul (suf x k) v u) (fun j=>(p++img (mul (suf x k)) ((wH (x.zA.length-k)).take (j-k)) (u.take (j-k)) v,(j:Int))) x.zA.length (fun j hj=>by
  unfold zS0;simp only
  rw[ai,xH hj,zJ];rcases Jf j k with hjk|hjk
  ·have e0:ixO (zeros k++u) (j:Int)=jq 0:=by
    rw[tL,K9 (by grind)]
    grind[zeros]
   rw[e0,bs,show j-k=0 from by omega,show j+1-k=0 from by omega];rw[yP];unfold zSz;simp only
   rw[show decide ((0:Int)<0)=jt from rfl,zK];simp only
   rw[bs,zH (by omega) (by omega),bs,cs]
  ·obtain⟨i,rfl⟩:∃i,j=k+i:=⟨j-k,by omega⟩
   have hi:i<x.zA.length-k:=by omega
   have hr:=ug i hi;rw[zRx (by omega),bs,show k+i-k=i from by omega,show k+i+1-k=i+1 from by omega];rw[zBb (S:=V (suf x k)) (fun w=>p++w) (fun w=>mul (suf x k) w (tY (x.zA.length-k) i)) (at0 u i) hr.1 (by grind[wY]) (fun w q hw hq=>by
    unfold zSz;simp only
    rw[jw hq,zJ,iY i w hi hw,bs,zH (by omega) (by omega),bs,cs]) (fun w hw=>by
    unfold zSz;simp) (hA i),bs,zH (by omega) (by omega),bs,cs]
   rw[zE2 _ _ _ _ (by grind[zE5]) (by omega),zGV hi]) (by
  unfold zS0;simp only
  rw[ai,wW,zK,Jg (by grind[zE5]),Jg (by omega),zEz G.toMon _ _ hUs hv];have hn:=normal (suf x k) ok (fun Q hQ=>(zKJ Q (zIt hQ ok) (zCJ hQ hc)).toMon) u hu
  grind)
 simp only[Jam,Kv,img]at this
 grind
theorem zFk{x:SPr}(h:Pres x):∀(d k:Nat),k+d=x.zA.length→uZ (suf x k)→(∀m,2*d+1≤m→FTV x k (zPF m))
 |d,k,hk,hc=>fun m hm=>by
  obtain⟨m,rfl⟩:∃m',m=m'+1:=⟨m-1,by omega⟩;refine zRy h (by omega) hc fun j hj fQ=>?_
  obtain⟨m,rfl⟩:∃m',m=m'+1:=⟨m-1,by omega⟩;have bC:uZ (suf x (j+1)):=by
   have:=zE3 hc (j+1-k)
   grind
  exact zKN h fQ bC (zFk h (x.zA.length-(j+1)) (j+1) (by omega) bC m (by omega))
 termination_by d=>d
 decreasing_by omega
theorem zUn{x:SPr}(h:Pres x){k:Nat}(hk:k≤x.zA.length)(hc:uZ (suf x k)):FTV x k f_a:=fun p v u hp hv hu=>
 zCA (2*(x.zA.length-k)+1) fun m hm=>zFk h (x.zA.length-k) k (by omega) hc m hm p v u hp hv hu
theorem zUo{x:SPr}(h:Pres x){k:Nat}(hk:k<x.zA.length)(hc:uZ (suf x (k+1))):FTG x k f_c:=fun p v hp hv=>
 zCA (2*(x.zA.length-k)) fun m hm=>by obtain⟨m,rfl⟩:∃m',m=m'+1:=⟨m-1,by omega⟩;exact zKN h hk hc (zFk h (x.zA.length-(k+1)) (k+1) (by omega) hc m (by omega)) p v hp hv
end Go.Pl

namespace Go.Pl
open Go Go.Ab Go.Wk Go.Pc
abbrev fv(k:Nat)(v:Vec):Vec:=zeros k++v
section
variable {x:SPr} (h:Pres x) {k:Nat} (hk:k≤x.zA.length) (hc:uZ (suf x k))
 include h hk
theorem zGW{v:Vec}(hv:V (suf x k) v):v.length=x.zA.length-k:=(zFj h.os (x.zA.length-k) k v (by omega) hv).1
theorem zGX{v:Vec}(hv:V (suf x k) v):(fv k v).length=x.zA.length:=by grind[yN,zGW]
theorem zRz:J1 x.zA.length (0:Int)=fv k (zeros (suf x k).length):=by
 have _:=h;rw[wK];simp only[fv,zeros,K3];grind
 include hc
theorem zXQ{i:Nat}(hi:i<x.zA.length-k):V (suf x k) (tY (x.zA.length-k) i):=by
 have _:=hc;have:=wK x k;rw[←this]at hi ⊢
 exact zFh (h.okAt hk) hi
theorem zKO{p:Vec}(hp:p.length=k){i:Nat}(hi:i<x.zA.length-k){w:Vec}(hw:V (suf x k) w):f_c x (p++w) ((k+i:Nat):Int)=jq (p++mul (suf x k) w (tY (x.zA.length-k) i)):=by
 obtain⟨q,w',h1,h2,h3,h4⟩:=zFX i k w (by omega) hw;have bC:uZ (suf x (k+i+1)):=zE3 hc (i+1);have h5:=zUo h (k:=k+i) (by omega) bC (p++q) w' (by grind) h3;have h7:V (suf x (k+i)) (1::zeros (x.zA.length-(k+i+1))):=by
  have ph:k+i<x.zA.length:=by omega
  rw[yY ph];have:=(h.os.2 (k+i) ph).pos;refine⟨⟨by omega,by show 1<at0 x.zA (k+i);omega⟩,?_⟩;rw[←wK];exact vT (h.okAt (by omega))
 grind[zE4]
theorem zGY{a b:Vec}(ha:V (suf x k) a)(hb:V (suf x k) b):f_a x (fv k a) (fv k b)=jq (fv k (mul (suf x k) a b)):=
 zUn h hk hc (zeros k) a b (yN k) ha hb
theorem zGZ{a:Vec}(ha:V (suf x k) a):f_H (fv k a)=jq (fv k a):=by
 have _:=hc;have:=zGX h hk ha;have h6:=h.os.1
 grind[f_H,zT]
theorem zDA{a b:Vec}(ha:V (suf x k) a)(hb:V (suf x k) b):zHx x (fv k a) (fv k b)=jq (fv k (mul (suf x k) a b)):=by grind[zHx,zGZ,zGY]
theorem zMo{c:Vec}(fh:V (suf x k) c){e:Int}(e0:0≤e)(e1:e≤1000):f_U x (fv k c) e=jq (fv k (pw (mul (suf x k)) (zeros (suf x k).length) c e.toNat)):=by
 have h6:=h.os.1;have ok:=h.okAt hk;unfold f_U;rw[zGX h hk fh,xJ (by omega),bs,zRz h hk];rw[zBb (S:=V (suf x k)) (body:=zS2 x (fv k c) e) (fun u=>fv k u) (fun u=>mul (suf x k) u c) e e0 (by grind[wY]) (fun u i hu hi=>by
  unfold zS2;simp only
  rw[jw hi,zJ,zGY h hk hc hu fh,bs,zH (by omega) (by omega),bs,cs]) (fun u hu=>by
  unfold zS2;simp) (vT ok),bs]
 rfl
theorem zBv{v:Vec}(hv:V (suf x k) v):∃w,V (suf x k) w∧mul (suf x k) v w=zeros (suf x k).length∧f_G x (fv k v)=jq (fv k w):=by
 have h6:=h.os.1;have ok:=h.okAt hk;have G:=zF9 h hk hc;have mG:=zGX h hk hv;have ct:=wK x k;unfold f_G;rw[zGZ h hk hc hv,bs,mG,xJ (by omega),bs,zRz h hk]
 let I:Nat→(List Int×List Int×Int)→Prop:=fun j s=> ∃A w,s=(fv k A,fv k w,(j:Int))∧V (suf x k) A∧V (suf x k) w∧mul (suf x k) v w=A∧ ∃A',A=zeros (j-k)++A'
 have key:=tU (body:=zS3 x (fv k v)) (Q:=fun r=> ∃w,V (suf x k) w∧mul (suf x k) v w=zeros (suf x k).length∧r=fv k w) I x.zA.length (fun j s hj hI=>by
  obtain⟨A,w,rfl,hA,hw,hm,A',hA'⟩:=hI;left;unfold zS3;simp only
  rw[mG,xH hj,zJ];rcases Jf j k with hjk|hjk
  ·have e0:ixO (fv k A) (j:Int)=jq 0:=by
    grind[tL,zeros]
   rw[yP];unfold zPG;simp only
   rw[e0,bs,show((0:Int) != 0)=jt from rfl,zK];simp only
   rw[bs,zH (by omega) (by omega),bs,cs]
   grind
  ·obtain⟨i,rfl⟩:∃i,j=k+i:=⟨j-k,by omega⟩
   have hi:i<x.zA.length-k:=by omega
   rw[show k+i-k=i from by omega]at hA';have jp:=zGW h hk hA;obtain⟨a0,A',rfl⟩:∃p q,A'=p::q:=by
    cases A' with
    |nil=>grind[yN]
    |cons p q=>simp
   have ff:=(h.os.2 (k+i) hj).pos;have inner:=tU (body:=zPG x (fv k A,fv k w,((k+i:Nat):Int))) (s:=(fv k A,fv k w))
    (Q:=fun r=> ∃B u,r=(fv k B,fv k u)∧V (suf x k) B∧V (suf x k) u∧mul (suf x k) v u=B∧ ∃B',B=zeros (i+1)++B')
    (fun q s=> ∃B u b B',s=(fv k B,fv k u)∧V (suf x k) B∧V (suf x k) u∧mul (suf x k) v u=B∧B=zeros i++b::B'∧(b=0∨b=a0+q)) 10 (fun q s hq hs=>by
     obtain⟨B,u,b,B',rfl,hB,hu,bY,bJ,hb⟩:=hs;have hz:ixO (fv k B) ((k+i:Nat):Int)=jq b:=by rw[fv,zRx (by grind[zGW]),bJ,at0,J2,Je (by rw[yN];omega),yN,L8];rfl
     unfold zPG;simp only
     rw[hz,bs]
     by_cases ji:b=0
     ·subst ji
      right;rw[show((0:Int) != 0)=jt from rfl,zK];exact⟨_,rfl,B,u,rfl,hB,hu,bY,B',by rw[bJ,zB2]⟩
     ·left
      have hbq:b=a0+q:=by omega
      rw[show(b != 0)=js from by grind,zJ,zKO h hk hc (yN k) hi hB,bs,zKO h hk hc (yN k) hi hu,bs];have hU:=zXQ h hk hc hi;obtain⟨q',v',h1,h2,h3,h4⟩:=zFX i k B (by omega) hB;have hqv:q'=zeros i∧v'=b::B':=by grind[List.append_inj,yN]
      obtain⟨rfl,rfl⟩:=hqv;have h7:V (suf x (k+i)) (1::zeros (x.zA.length-(k+i+1))):=by rw[yY hj];refine⟨⟨by omega,by show 1<at0 x.zA (k+i);omega⟩,?_⟩;rw[←wK];exact vT (h.okAt (by omega))
      have h8:=h4 (b::B') _ h3 h7;rw[show x.zA.length-(k+i+1)=x.zA.length-k-(i+1)from by omega,←zE4 hi,←h1,yY hj,xG]at h8;refine⟨_,rfl,mul (suf x k) B (tY (x.zA.length-k) i),mul (suf x k) u (tY (x.zA.length-k) i),?_⟩;have fg:(lvl x (k+i)).o=at0 x.zA (k+i):=rfl;rw[fg]at h8
      by_cases hge:b+1≥at0 x.zA (k+i)
      ·rw[if_pos hge]at h8
       refine⟨_,_,rfl,wY ok hB hU,wY ok hu hU,?_,h8,?_⟩
       ·rw[←G.assoc hv hu hU,bY]
       ·left
        rw[yY hj]at h3;have:=h3.1.2;omega
      ·rw[if_neg hge]at h8
       refine⟨_,_,rfl,wY ok hB hU,wY ok hu hU,?_,h8,?_⟩
       ·rw[←G.assoc hv hu hU,bY]
       omega) (fun s hs=>by
     obtain⟨B,u,b,B',rfl,hB,hu,bY,bJ,hb⟩:=hs;have hz:ixO (fv k B) ((k+i:Nat):Int)=jq b:=by rw[fv,zRx (by grind[zGW]),bJ,at0,J2,Je (by rw[yN];omega),yN,L8];rfl
     have hbr:=(zFj h.os (x.zA.length-k) k B (by omega) hB).2 i hi;have ha:=(zFj h.os (x.zA.length-k) k A (by omega) hA).2 i hi;have e1:at0 B i=b:=by rw[bJ,at0,J2,Je (by grind[yN]),yN,L8];rfl
     have e2:at0 A i=a0:=by rw[hA',at0,J2,Je (by grind[yN]),yN,L8];rfl
     have ji:b=0:=by omega
     subst ji;unfold zPG;simp only
     rw[hz,bs,show((0:Int) != 0)=jt from rfl,zK];exact⟨_,rfl,B,u,rfl,hB,hu,bY,B',by rw[bJ,zB2]⟩) (by grind)
   obtain⟨r,r1,B,u,rfl,hB,hu,bY,B',bJ⟩:=inner;rw[r1,bs,zH (by omega) (by omega),bs,cs]
   grind) (fun s hI=>by
  obtain⟨A,w,rfl,hA,hw,hm,A',hA'⟩:=hI;unfold zS3;simp only
  rw[mG,wW,zK];refine⟨_,rfl,w,hw,?_,rfl⟩;have jp:=zGW h hk hA;rw[hA',J8,yN]at jp
  grind) (s:=(fv k v,fv k (zeros (suf x k).length),0))
  ⟨v,_,rfl,hv,vT ok,G.oner hv,v,by rw[Jam];rfl⟩
 grind
theorem zCK{a b:Vec}(ha:V (suf x k) a)(hb:V (suf x k) b):∃c,V (suf x k) c∧mul (suf x k) b c=mul (suf x k) a b∧zMU x (fv k a) (fv k b)=jq (fv k c):=by
 have ok:=h.okAt hk;have G:=zF9 h hk hc;obtain⟨w,hw,hm,h1⟩:=zBv h hk hc hb;have fI:=wY ok ha hb;refine⟨mul (suf x k) w (mul (suf x k) a b),wY ok hw fI,?_,?_⟩
 ·rw[←G.assoc hb hw fI,hm,G.onel fI]
 grind[zMU,zDA]
end
theorem zMp{a b:List Int}(h:a.length≤1000000):yCh a b=jq (a==b):=
 yAo (t:=fun u v=>jq (u==v)) (body:=zWK a b) rfl (fun _=>rfl) (by omega) fun _ _ _ _=>rfl
theorem zFl{a b:List Int}(h:a.length≤1000000):zPC a b=jq (a==b):=zMp h
end Go.Pl

namespace Go.Pl
open Go Go.Ab Go.Wk Go.Pc
theorem uC{σ ρ:Type}{body:σ→Option (σ⊕ρ)}{Q:ρ→Prop}(I:σ→Prop)(m:σ→Nat)
  (h:∀s,I s→(∃s',body s=jq (.inl s')∧I s'∧m s'<m s)∨ ∃r,body s=jq (.inr r)∧Q r):∀(k:Nat)(s:σ),m s≤k→I s→ ∃r,zC body s=jq r∧Q r
 |k,s,hk,hs=>by
  rcases h s hs with⟨s',h1,h2,h3⟩|⟨r,h1,h2⟩
  ·cases k with
   |zero=>omega
   |succ k=>
    obtain⟨r,h4,h5⟩:=uC I m h k s' (by omega) h2
    grind[yP]
  grind[yP]
theorem zR0{x:SPr}{v:List Int}{i k:Nat}(h:Exp x.zA v i)(hk:k≤i+1)(hn:k≤x.zA.length):v=fv k (v.drop k)∧V (suf x k) (v.drop k):=by
 have h1:=h.1.1;constructor
 ·apply Kl
  intro j;rw[fv,Kb];simp only[zeros,Jl,K1,Ky];split
  ·rename_i hj
   have h2:=h.2 j (by omega)
   grind
  grind
 ·refine zXP (x.zA.length-k) k _ (by omega) (by grind) fun j hj=>?_
  have:=h.1.2 (k+j) (by omega)
  grind
structure LC (x:SPr) (k:Nat):Prop where
 c1:∀j,k+1≤j→j<x.zA.length→pw (mul (suf x (k+1))) (zeros (suf x (k+1)).length) ((lvl x k).cs.getD (j-(k+1)) []) (at0 x.zA j).toNat=sig (suf x (k+1)) (lvl x k) ((x.yB.getD j []).drop (k+1))
 c2:∀i,k+1≤i→i<x.zA.length→ ∀j,i+1≤j→j<x.zA.length→
  mul (suf x (k+1)) ((lvl x k).cs.getD (j-(k+1)) []) ((lvl x k).cs.getD (i-(k+1)) [])=mul (suf x (k+1)) ((lvl x k).cs.getD (i-(k+1)) []) (sig (suf x (k+1)) (lvl x k) (((x.zD.getD i []).getD (j-(i+1)) []).drop (k+1)))
 c3:sig (suf x (k+1)) (lvl x k) (lvl x k).w=(lvl x k).w
 c4:∀j,k+1≤j→j<x.zA.length→mul (suf x (k+1)) (lvl x k).w (iter (lvl x k).o.toNat (sig (suf x (k+1)) (lvl x k)) (tY (x.zA.length-(k+1)) (j-(k+1))))=mul (suf x (k+1)) (tY (x.zA.length-(k+1)) (j-(k+1))) (lvl x k).w
section
variable {x:SPr} (h:Pres x) {k:Nat} (hk:k<x.zA.length) (hc:uZ (suf x (k+1)))
 include h hk
theorem zR1{j:Nat}(h1:k+1≤j)(h2:j<x.zA.length):ixO x.zD (k:Int)=jq (x.zD.getD k [])∧ixO (x.zD.getD k []) ((j:Int)-(k:Int)-1)=jq (fv (k+1) ((lvl x k).cs.getD (j-(k+1)) []))∧V (suf x (k+1)) ((lvl x k).cs.getD (j-(k+1)) []):=by
 obtain⟨c,c1,c2,c3,c4⟩:=zJt h hk (i:=j-(k+1)) (by omega)
 grind
theorem yAp:ixO x.yB (k:Int)=jq (fv (k+1) (lvl x k).w)∧V (suf x (k+1)) (lvl x k).w:=by
 have t1:=(h.tl k hk).1;have hl:=h.pl;obtain⟨e1,e2⟩:=zR0 (k:=k+1) t1 (by omega) (by omega);exact⟨by rw[yO [] (by omega)];exact congrArg jq e1,e2⟩
 include hc
end
end Go.Pl

namespace Go.Pl
open Go Go.Ab Go.Wk Go.Pc
end Go.Pl

namespace Go.Pl
open Go Go.Ab Go.Wk Go.Pc
theorem zFm{m:Vec→Vec→Vec}:∀(i:Nat)(cs:List Vec)(w acc:Vec),i≤cs.length→img m cs (zeros i++w) acc=img m (cs.drop i) w acc
 |0,cs,w,acc,_=>rfl
 |i+1,[],w,acc,h=>by simp at h
 |i+1,c::cs,w,acc,h=>by show img m (c::cs) (0::(zeros i++w)) acc=_;simp only[img,Hk,iter,List.drop_succ_cons];exact zFm i cs w acc (by grind)
theorem zHa{x:SPr}{v:List Int}{j k:Nat}(h:Exp x.zA v j)(hj:j<x.zA.length)(hk:k≤j+1):v.drop k=zeros (j+1-k)++v.drop (j+1):=by
 have:=zBM h hj
 grind[zeros]
section
variable {x:SPr} (h:zD9 x) {k:Nat} (hk:k<x.zA.length)
 include h hk
theorem zBN:(lvl x k).cs.length=x.zA.length-(k+1):=by have ok0:=h.okAt (k:=k) (by omega);rw[yY hk]at ok0;rw[ok0.2.2.1,wK]
theorem zUp{j:Nat}(h1:k+1≤j)(h2:j<x.zA.length):sig (suf x (k+1)) (lvl x k) ((x.yB.getD j []).drop (k+1))=img (mul (suf x (k+1))) ((lvl x k).cs.drop (j-k)) (lvl x j).w (zeros (suf x (k+1)).length):=by have t1:=(h.tl j h2).1;have gK:=zBN h hk;rw[zHa t1 h2 (by omega),sig,zFm _ _ _ _ (by omega),show j+1-(k+1)=j-k from by omega];rfl
theorem zNW:∀(d i:Nat),k+1+i+d=x.zA.length→(Rel (mul (suf x (k+1))) (zeros (suf x (k+1)).length) (suf x (k+1+i)) ((lvl x k).cs.drop i)↔
  (∀j,k+1+i≤j→j<x.zA.length→pw (mul (suf x (k+1))) (zeros (suf x (k+1)).length) ((lvl x k).cs.getD (j-(k+1)) []) (at0 x.zA j).toNat=sig (suf x (k+1)) (lvl x k) ((x.yB.getD j []).drop (k+1)))∧
  (∀a,k+1+i≤a→a<x.zA.length→ ∀j,a+1≤j→j<x.zA.length→
   mul (suf x (k+1)) ((lvl x k).cs.getD (j-(k+1)) []) ((lvl x k).cs.getD (a-(k+1)) [])=mul (suf x (k+1)) ((lvl x k).cs.getD (a-(k+1)) []) (sig (suf x (k+1)) (lvl x k) (((x.zD.getD a []).getD (j-(a+1)) []).drop (k+1)))))
 |0,i,hi=>by
  have gK:=zBN h hk;rw[sT (x:=x) (k:=k+1+i) (by omega),H9 (by omega)];simp only[Rel,true_iff]
  grind
 |d+1,i,hi=>by
  have gK:=zBN h hk;have ih:=zNW d (i+1) (by omega);rw[show k+1+(i+1)=k+1+i+1 from by omega]at ih;have hj:k+1+i<x.zA.length:=by omega
  have hg:(lvl x k).cs.drop i=(lvl x k).cs.getD i []::(lvl x k).cs.drop (i+1):=by rw[Lv (by omega),J2,J4 (by omega)];rfl
  rw[yY hj,hg];simp only[Rel];rw[ih];have e1:=zUp h hk (j:=k+1+i) (by omega) hj;rw[show k+1+i-k=i+1 from by omega]at e1;have ho:(lvl x (k+1+i)).o=at0 x.zA (k+1+i):=rfl;rw[ho,←e1];have e2:∀j,k+1+i+1≤j→j<x.zA.length→ ∀dd,(lvl x (k+1+i)).cs[j-(k+1+i+1)]? =jq dd→img (mul (suf x (k+1))) ((lvl x k).cs.drop (i+1)) dd (zeros (suf x (k+1)).length)=sig (suf x (k+1)) (lvl x k) (((x.zD.getD (k+1+i) []).getD (j-(k+1+i+1)) []).drop (k+1)):=fun j h1 h2 dd jc=>by
   obtain⟨_,t2,t3⟩:=h.tl (k+1+i) hj;have t:=t3 (j-(k+1+i+1)) (by omega);rw[zHa t hj (by omega),sig,zFm _ _ _ _ (by omega),show k+1+i+1-(k+1)=i+1 from by omega]
   congr 1
   simp only[lvl,Jp,K7]at jc
   grind
  have e3:∀j,k+1+i+1≤j→j<x.zA.length→((lvl x k).cs.drop (i+1))[j-(k+1+i+1)]? =jq ((lvl x k).cs.getD (j-(k+1)) [])∧ ∃dd,(lvl x (k+1+i)).cs[j-(k+1+i+1)]? =jq dd:=fun j h1 h2=>by
   have hcl2:=zBN h hj;refine⟨?_,?_⟩
   ·rw[Ky,show i+1+(j-(k+1+i+1))=j-(k+1)from by omega,J2,J4 (by omega)];rfl
   ·exact⟨_,J4 (by omega)⟩
  constructor
  ·rintro⟨a1,a2,a3,a4⟩
   refine⟨fun j h1 h2=>?_,fun a h1 h2 j h3 h4=>?_⟩
   ·rcases Jf (k+1+i) j with gE|hge
    ·grind
    ·obtain rfl:j=k+1+i:=by omega
     rw[show k+1+i-(k+1)=i from by omega];exact a1
   ·rcases Jf (k+1+i) a with gE|hge
    ·exact a4 a (by omega) h2 j h3 h4
    ·obtain rfl:a=k+1+i:=by omega
     obtain⟨f1,dd,f2⟩:=e3 j (by omega) h4;have:=a2 _ _ _ f1 f2;rw[e2 j (by omega) h4 dd f2]at this;rw[show k+1+i-(k+1)=i from by omega];exact this
  ·rintro⟨a1,a2⟩
   refine⟨?_,fun kk c dd h1 h2=>?_,by grind,by grind⟩
   ·have:=a1 (k+1+i) (by omega) hj
    rw[show k+1+i-(k+1)=i from by omega]at this;exact this
   ·have gE:kk<x.zA.length-(k+1+i+1):=by
     have:=(Ja.1 h1).1;rw[Km]at this;omega
    have g:=a2 (k+1+i) (by omega) hj (k+1+i+1+kk) (by omega) (by omega);obtain⟨f1,_⟩:=e3 (k+1+i+1+kk) (by omega) (by omega);rw[show k+1+i+1+kk-(k+1+i+1)=kk from by omega]at f1 g;rw[h1]at f1;have f1:=Ls.inj f1;have g2:=e2 (k+1+i+1+kk) (by omega) (by omega) dd (by rw[show k+1+i+1+kk-(k+1+i+1)=kk from by omega];exact h2);rw[show k+1+i+1+kk-(k+1+i+1)=kk from by omega]at g2;rw[g2,f1];rw[show k+1+i-(k+1)=i from by omega]at g;exact g
theorem zKP:uZ (suf x k)↔uZ (suf x (k+1))∧LC x k:=by
 have hr:=zNW h hk (x.zA.length-(k+1)) 0 (by omega);have hl:=wK x (k+1);rw[H3,Jan]at hr;rw[yY hk];simp only[uZ];rw[hr];constructor
 ·rintro⟨a,⟨b1,b2⟩,c,d⟩
  refine⟨a,⟨b1,b2,c,fun j h1 h2=>?_⟩⟩
  grind
 ·rintro⟨a,b⟩
  refine⟨a,⟨b.c1,b.c2⟩,b.c3,fun j hj=>?_⟩;have:=b.c4 (k+1+j) (by omega) (by omega);rw[show k+1+j-(k+1)=j from by omega]at this
  rwa [hl]
end
end Go.Pl

namespace Go.Pl
open Go Go.Ab Go.Wk
abbrev Mx:=List (List Int)
def S:Nat→(Nat→Int)→Int
 |0,_=>0
 |n+1,f=>S n f+f n
theorem vU{n:Nat}{f g:Nat→Int}(h:∀i,i<n→f i=g i):S n f=S n g:=by
 induction n with
 |zero=>rfl
 |succ n ih=>grind[S]
theorem zCL{p:Int}{f g:Nat→Int}:∀{n:Nat},(∀i,i<n→f i%p=g i%p)→S n f%p=S n g%p
 |0,_=>rfl
 |n+1,h=>by simp only[S];rw[Jv,zCL (n:=n) fun i hi=>h i (by omega),h n (by omega),←Jv]
theorem zA8:∀n:Nat,S n (fun _=>0)=0
 |0=>rfl
 |n+1=>by simp only[S,zA8 n];rfl
theorem zKQ{f g:Nat→Int}:∀n:Nat,S n (fun i=>f i+g i)=S n f+S n g
 |0=>rfl
 |n+1=>by simp only[S,zKQ n];omega
theorem zNX{f:Nat→Int}(a:Int):∀n:Nat,S n (fun i=>f i*a)=S n f*a
 |0=>by simp[S]
 |n+1=>by simp only[S,zNX a n,Int.add_mul]
theorem zDT{f:Nat→Int}(a:Int):∀n:Nat,S n (fun i=>a*f i)=a*S n f
 |0=>by simp[S]
 |n+1=>by simp only[S,zDT a n,Int.mul_add]
theorem zJv{f:Nat→Nat→Int}(m:Nat):∀n:Nat,S n (fun i=>S m (fun j=>f i j))=S m (fun j=>S n (fun i=>f i j))
 |0=>by simp only[S];grind[zA8]
 |n+1=>by simp only[S];rw[zJv m n,zKQ]
theorem zBO{f:Nat→Int}{k:Nat}:∀{n:Nat},k<n→(∀i,i<n→i≠k→f i=0)→S n f=f k
 |0,h,_=>by omega
 |n+1,h,hz=>by
  simp only[S]
  by_cases hk:k=n
  ·subst hk
   rw[vU (g:=fun _=>0) fun i hi=>hz i (by omega) (by omega),zA8];omega
  ·rw[zBO (n:=n) (by omega) fun i hi=>hz i (by omega),hz n (by omega) (by omega)];omega
def mkv(D:Nat)(f:Nat→Int):List Int:=(Ju D).map f
theorem yG(D:Nat)(f:Nat→Int):(mkv D f).length=D:=by simp[mkv]
theorem zDm{D:Nat}{f:Nat→Int}{i:Nat}(h:i<D):(mkv D f)[i]? =jq (f i):=by simp[mkv,h]
theorem yD{D:Nat}{f:Nat→Int}{i:Nat}(h:i<D):at0 (mkv D f) i=f i:=by rw[at0,J2,zDm h];rfl
theorem yV{D:Nat}{f g:Nat→Int}(h:∀i,i<D→f i=g i):mkv D f=mkv D g:=by grind[mkv,U7]
theorem zAs{D:Nat}{f:Nat→Int}{j:Nat}{a:Int}:(mkv D f).set j a=mkv D (fun i=>if i=j then a else f i):=by
 apply Kl;intro i;rw[Jb3,yG]
 by_cases hi:i<D
 ·by_cases ea:j=i
  ·subst ea;rw[if_pos rfl,if_pos hi,zDm hi,if_pos rfl]
  ·rw[if_neg ea,zDm hi,zDm hi,if_neg fun h=>ea h.symm]
 ·have h1:∀g:Nat→Int,(mkv D g)[i]? =jr:=by grind[yG]
  grind
theorem tM{v:List Int}{D:Nat}(h:v.length=D):v=mkv D (at0 v):=by
 apply Kl;intro i
 by_cases hi:i<D
 ·rw[zDm hi,at0,J2,J4 (by omega)];rfl
 grind[yG]
theorem qO(D:Nat):J1 D (0:Int)=mkv D (fun _=>0):=by
 apply Kl
 grind[zDm,yG]
abbrev ent(B:Mx)(l j:Nat):Int:=at0 (B.getD l []) j
def zA2(p:Int)(D:Nat)(r:List Int)(B:Mx):List Int:=mkv D fun j=>S D (fun l=>at0 r l*ent B l j)%p
def PM(p:Int)(D:Nat)(A B:Mx):Mx:=A.map fun r=>zA2 p D r B
def idM(D:Nat):Mx:=(Ju D).map fun i=>mkv D fun j=>if j=i then 1 else 0
def Row(p:Int)(D:Nat)(r:List Int):Prop:=r.length=D∧ ∀i,i<D→0≤at0 r i∧at0 r i≤p-1
def Mat(p:Int)(D:Nat)(A:Mx):Prop:=A.length=D∧ ∀i,i<D→Row p D (A.getD i [])
theorem zCM{p:Int}{D i:Nat}{A B:Mx}(h:i<A.length):(PM p D A B).getD i []=zA2 p D (A.getD i []) B:=by grind[PM]
theorem kV{p:Int}{D:Nat}{A B:Mx}:(PM p D A B).length=A.length:=by simp[PM]
theorem zMq{p:Int}{D:Nat}{A B:Mx}(hp:0<p)(hA:A.length=D):Mat p D (PM p D A B):=by refine⟨by rw[kV,hA],fun i hi=>?_⟩;rw[zCM (by omega)];refine⟨by rw[zA2,yG],fun j hj=>?_⟩;rw[zA2,yD hj];have h1:=Kq (S D fun l=>at0 (A.getD i []) l*ent B l j) (show p≠0 by omega);have h2:=Kh (S D fun l=>at0 (A.getD i []) l*ent B l j) hp;omega
theorem zMr{p:Int}{D i j:Nat}{A B:Mx}(hA:A.length=D)(hi:i<D)(hj:j<D):ent (PM p D A B) i j=S D (fun l=>ent A i l*ent B l j)%p:=by rw[ent,zCM (by omega),zA2,yD hj]
theorem zHb{D:Nat}{A B:Mx}(hA:A.length=D)(hB:B.length=D)(h:∀i,i<D→A.getD i []=B.getD i []):A=B:=by
 apply Kl
 grind
theorem zR2{p:Int}{D:Nat}{A B C:Mx}(hA:A.length=D)(hB:B.length=D):PM p D (PM p D A B) C=PM p D A (PM p D B C):=by
 refine zHb (by rw[kV,kV,hA]) (by rw[kV,hA]) fun i hi=>?_
 rw[zCM (A:=PM p D A B) (by rw[kV];omega),zCM (A:=A) (B:=PM p D B C) (by omega)];unfold zA2;refine yV fun j hj=>?_
 have e1:S D (fun l=>at0 ((PM p D A B).getD i []) l*ent C l j)%p=S D (fun l=>S D (fun q=>ent A i q*ent B q l)*ent C l j)%p:=zCL fun l hl=>by
  have:=zMr (p:=p) (B:=B) hA hi hl;simp only[ent]at this ⊢
  rw[this,Jq,K0,←Jq]
 have e2:S D (fun l=>at0 (A.getD i []) l*ent (PM p D B C) l j)%p=S D (fun q=>ent A i q*S D (fun l=>ent B q l*ent C l j))%p:=zCL fun q hq=>by rw[zMr hB hq hj,Jq,K0,←Jq]
 rw[e1,e2]
 congr 1
 have e3:(fun l=>S D (fun q=>ent A i q*ent B q l)*ent C l j)=fun l=>S D (fun q=>ent A i q*ent B q l*ent C l j):=funext fun l=>(zNX _ _).symm
 have e4:(fun q=>ent A i q*S D (fun l=>ent B q l*ent C l j))=fun q=>S D (fun l=>ent A i q*ent B q l*ent C l j):=funext fun q=>by rw[←zDT];exact vU fun l _=>by rw[H5]
 rw[e3,e4];exact zJv D D
theorem zBc(D:Nat):(idM D).length=D:=by simp[idM]
theorem zDn{D i:Nat}(h:i<D):(idM D).getD i []=mkv D fun j=>if j=i then 1 else 0:=by simp[idM,J2,h]
theorem zJw{p:Int}{D:Nat}(hp:2≤p):Mat p D (idM D):=by
 refine⟨zBc D,fun i hi=>?_⟩;rw[zDn hi];refine⟨yG _ _,fun j hj=>?_⟩
 grind[yD]
theorem tV{p a:Int}(h:0≤a∧a≤p-1):a%p=a:=Jb h.1 (by omega)
theorem zUq{p:Int}{D:Nat}{B:Mx}(hB:Mat p D B):PM p D (idM D) B=B:=by
 refine zHb (by rw[kV,zBc]) hB.1 fun i hi=>?_
 rw[zCM (by grind[zBc]),zDn hi,zA2];obtain⟨h1,h2⟩:=hB.2 i hi;refine Eq.trans (yV fun j hj=>?_) (tM h1).symm;rw[zBO (k:=i) hi fun l hl gf=>by rw[yD hl,if_neg gf,Gf],yD hi,if_pos rfl,Hj]
 grind[tV]
theorem zR3{p:Int}{D:Nat}{A:Mx}(hA:Mat p D A):PM p D A (idM D)=A:=by
 refine zHb (by rw[kV,hA.1]) hA.1 fun i hi=>?_
 rw[zCM (by rw[hA.1];exact hi),zA2];obtain⟨h1,h2⟩:=hA.2 i hi;refine Eq.trans (yV fun j hj=>?_) (tM h1).symm;rw[zBO (k:=j) hj fun l hl gf=>by rw[ent,zDn hl,yD hj,if_neg (fun h=>gf h.symm),L3],ent,zDn hj,yD hj,if_pos rfl,Kf]
 grind[tV]
theorem zXR{p:Int}{D i j:Nat}{B:Mx}(hB:Mat p D B)(hi:i<D)(hj:j<D):ixO B (i:Int)=jq (B.getD i [])∧ixO (B.getD i []) (j:Int)=jq (ent B i j)∧(B.getD i []).length=D∧0≤ent B i j∧ent B i j≤p-1:=by
 obtain⟨h1,h2⟩:=hB.2 i hi
 grind[yO]
section
variable {p:Int}{D:Nat} (hp:Prime p) (hD:D≤8)
 include hp hD
theorem zR4{i:Nat}(_hi:i<D):(J1 D (0:Int)).set i 1=mkv D fun j=>if j=i then 1 else 0:=by have _:=hp;have _:=hD;rw[qO,zAs]
theorem zUr{i:Nat}(hi:i<D):(idM D).take i++[mkv D fun j=>if j=i then 1 else 0]=(idM D).take (i+1):=by
 have _:=hp;have _:=hD;rw[Ku (by grind[zBc])]
 congr 2
 have:=zDn hi
 grind
theorem zH9:f_L p (D:Int)=jq (zN.mk p (D:Int) (idM D)):=by
 unfold f_L;have:=zU (body:=zJO (D:Int)) (r:=idM D) (fun i=>((idM D).take i,(i:Int))) D (fun i hi=>by
  unfold zJO;simp only
  rw[xH hi,zJ,xJ (by omega),bs,tL,K1,if_pos hi,bs,J9,zR4 hp hD hi,zT (by grind),bs,zH (by omega) (by omega),bs,cs,zUr hp hD hi]) (by
  unfold zJO;simp only
  rw[wW,zK,Jg (by grind[zBc])])
 grind
end
end Go.Pl

namespace Go.Pl
open Go Go.Ab Go.Wk Go.Pc
def nw:Nat→List Int→List Nat
 |_,[]=>[]
 |o,a::v=>J1 a.toNat o++nw (o+1) v
theorem zIv:∀(o:Nat)(u v:List Int),nw o (u++v)=nw o u++nw (o+u.length) v
 |o,[],v=>by simp[nw]
 |o,a::u,v=>by
  simp only[G5,nw,zIv (o+1) u v,Ji,Jx]
  grind
def wM(p:Int)(D:Nat)(A:List Mx)(ws:List Nat)(B:Mx):Mx:=ws.foldl (fun B w=>PM p D B (A.getD w [])) B
theorem zPb{p:Int}{D:Nat}{A:List Mx}{u v:List Nat}{B:Mx}:wM p D A (u++v) B=wM p D A v (wM p D A u B):=by simp[wM,List.foldl_append]
theorem zMs{p:Int}{D:Nat}{A:List Mx}{w:Nat}:∀(k:Nat)(B:Mx),wM p D A (J1 k w) B=iter k (fun B=>PM p D B (A.getD w [])) B
 |0,_=>rfl
 |k+1,B=>by rw[Ks];show wM p D A (J1 k w) (PM p D B (A.getD w []))=_;rw[zMs k];rfl
structure yBI (n:Nat) (m:yS) (D:Nat):Prop where
 p:Prime m.Prime
 d:m.Dim=(D:Int)
 d3:D≤30
 len:m.yZ.length=n
 mat:∀i,i<n→Mat m.Prime D (m.yZ.getD i [])
structure yAq (n:Nat) (m:yS) (D:Nat):Prop where
 p:Prime m.Prime
 d3:D≤200
 len:m.yZ.length=n
 mat:∀i,i<n→Mat m.Prime D (m.yZ.getD i [])
theorem yBJ{v o:Int}(h:zS5 1 (IntKind.wrap .u64 o)=jq (0,o)):zS5 (IntKind.wrap .u64 (([v]:List Int).length:Int)) (IntKind.wrap .u64 o)=jq (0,o):=by rw[show IntKind.wrap .u64 (([v]:List Int).length:Int)=1 from by rfl];exact h
end Go.Pl

namespace Go.Pl
open Go Go.Ab Go.Wk Go.Pc
theorem zKR{p:Int}{D:Nat}{r:List Int}(hp:Prime p)(hD:D≤8):IsB (zUY r p (D:Int)) (Row p D r):=by
 have h7:=hp.pos;unfold zUY
 by_cases h:r.length=D
 ·rw[zF7 (by omega),zK]
  refine(zFi r.length (fun i=>0≤at0 r i∧at0 r i≤p-1) rfl (fun i hi _=>?_) ?_).iff ⟨fun g=>⟨h,by grind⟩,fun g=>by rw[h];exact g.2⟩
  ·refine zDl (sM _ _ _) (by omega) ?_
   unfold zO5;rw[xH hi,zJ,xV hi,bs,zH (by omega) (by omega),bs]
  ·unfold zO5
   simp
 ·rw[zE0 (by omega),zJ]
  exact .inr ⟨rfl,fun g=>h g.1⟩
def zUs(x:SPr)(m:yS)(D:Nat):Prop:=
 ∀i,i<x.zA.length→wM m.Prime D m.yZ (J1 (at0 x.zA i).toNat i) (idM D)=wM m.Prime D m.yZ (nw 0 (x.yB.getD i [])) (idM D)∧
  ∀j,i+1≤j→j<x.zA.length→PM m.Prime D (m.yZ.getD j []) (m.yZ.getD i [])=PM m.Prime D (m.yZ.getD i []) (wM m.Prime D m.yZ (nw 0 ((x.zD.getD i []).getD (j-(i+1)) [])) (idM D))
theorem zIw{x:SPr}{v:List Int}{i:Nat}(ho:Os x.zA)(h:Exp x.zA v i):v.length=x.zA.length∧ ∀j,j<x.zA.length→0≤at0 v j∧at0 v j≤6:=by have h1:=h.1.1;refine⟨h1,fun j hj=>?_⟩;have:=h.1.2 j (by omega);have:=(ho.2 j hj).pos;omega
end Go.Pl

namespace Go.Pl
open Go Go.Ab Go.Wk Go.Pc
end Go.Pl

namespace Go.Pl
open Go Go.Ab Go.Wk Go.Pc
theorem zIx{xs:List (List Int)}{i:Nat}(h:i<xs.length):(xs.take (i+1)).flatten=(xs.take i).flatten++xs.getD i []:=by grind[Ku]
theorem zNY{xs:List (List Int)}(i:Nat):(xs.take i).flatten.length≤xs.flatten.length:=by grind[List.take_append_drop]
theorem zPc{k:Nat}(hk:k≤1000000):zS7 (k:Int)=jq []:=by
 unfold zS7;rw[ju (by omega),zK,zH (by decide) (by decide),bs,zH (by omega) (by omega),bs]
 by_cases h:(k:Int)-(0-0)> 0
 ·rw[jw h,zJ]
  have e:xR ([]:List Int) ((k:Int)-(0-0)) 0=jq (J1 k 0):=by
   unfold xR
   grind
  rw[e,bs];rfl
 grind
theorem zFA{xs:List (List Int)}(hx:xs.length≤1000)(hf:xs.flatten.length≤1000000):f_z xs=jq xs.flatten:=by
 unfold f_z;have l1:=zU (body:=zS8 xs) (r:=((xs.flatten.length:Nat):Int)) (fun i=>((((xs.take i).flatten.length:Nat):Int),(i:Int))) xs.length (fun i hi=>by
  have h1:=zIx hi;have h2:=zNY (xs:=xs) (i+1);have h3:=congrArg Qx h1;rw[J8]at h3;unfold zS8;simp only
  rw[xH hi,zJ,yO [] hi,bs,zH (by omega) (by omega),bs,ju (by omega),zK,zH (by omega) (by omega),bs,cs,h3]
  congr 3) (by
  unfold zS8;simp)
 rw[show((0:Nat):Int)=0 from rfl]at l1;simp only[Kv,List.flatten_nil,Li]at l1;rw[show((0:Nat):Int)=0 from rfl]at l1;rw[l1,bs,zPc hf,bs];have l2:=zU (body:=zS9 xs) (r:=xs.flatten) (fun i=>((xs.take i).flatten,(i:Int))) xs.length (fun i hi=>by
  have h1:=zIx hi;have h2:=zNY (xs:=xs) (i+1);have h3:=congrArg Qx h1;rw[J8]at h3;unfold zS9;simp only
  rw[xH hi,zJ,yO [] hi,bs,zT (by omega),bs,zH (by omega) (by omega),bs,cs,h1]) (by
  unfold zS9;simp)
 grind
theorem zKS{r:List Int}{a b:Nat}(hr:r.length≤1000)(ha:a≤1000)(hb:b≤1000):zSA r (a:Int) (b:Int)=jq (J1 a 0++(r++J1 b 0)):=by grind[zSA,xJ,zFA]
end Go.Pl

namespace Go.Pl
open Go Go.Ab Go.Wk Go.Pc
section
variable {p:Int}
def sE(p:Int)(D:Nat)(r:List Int)(k:Int)(s:List Int):List Int:=mkv D fun j=>(at0 r j+k*at0 s j)%p
def zHA(p:Int)(D i:Nat)(r:List Int)(k:Int)(s:List Int):List Int:=mkv D fun j=>if j<i then(at0 r j+k*at0 s j)%p else at0 r j
theorem zIy{D:Nat}{r s:List Int}{k:Int}(hr:r.length=D):zHA p D 0 r k s=r:=by
 conv=>rhs;rw[tM hr]
 rfl
theorem zIz{D:Nat}{r s:List Int}{k:Int}:zHA p D D r k s=sE p D r k s:=yV (by omega)
theorem zKT{D i:Nat}{r s:List Int}{k a:Int}(ha:a=(at0 r i+k*at0 s i)%p):(zHA p D i r k s).set i a=zHA p D (i+1) r k s:=by
 simp only[zHA];rw[zAs]
 grind
theorem zNZ{D i:Nat}{r s:List Int}{k:Int}(hi:i<D):at0 (zHA p D i r k s) i=at0 r i:=by rw[zHA,yD hi,if_neg (by omega)]
theorem zE6{D i:Nat}{r s:List Int}{k:Int}:(zHA p D i r k s).length=D:=yG _ _
end
section
variable {p:Int} (hp:Prime p)
 include hp
theorem zKU{a:Int}(_h0:-1000≤a)(_h1:a≤1000):zMV a p=jq (a%p):=by
 have h7:=hp.pos;have e1:=Jbo a (show 0<p by omega);have e2:=Jak a (show 0<p by omega);have e3:(Jae a p+p)%p=a%p:=by
  rw[Un];have:=Q5 a p
  conv=>rhs;rw[←this]
  simp
 unfold zMV xN;rw[if_neg (by omega),bs,zH (by omega) (by omega),bs,if_neg (by omega),bs,Gb (by omega),e3]
theorem zKV{a:Int}(_h0:-1000≤a)(_h1:a≤1000):zSC a p=jq (a%p):=by
 have h7:=hp.pos;have e1:=Jbo a (show 0<p by omega);have e2:=Jak a (show 0<p by omega);have e3:(Jae a p+p)%p=a%p:=by
  rw[Un];have:=Q5 a p
  conv=>rhs;rw[←this]
  simp
 unfold zSC xN;rw[if_neg (by omega),bs]
 by_cases h:Jae a p<0
 ·rw[jw h,zJ,zH (by omega) (by omega),bs,←e3,Jb (by omega) (by omega)]
 ·rw[ju h,zK,←e3,Un,Jb (by omega) (by omega)]
theorem zCN{D:Nat}{r s:List Int}{k:Int}:Row p D (sE p D r k s):=by have h7:=hp.pos;refine⟨yG _ _,fun i hi=>?_⟩;have e:at0 (sE p D r k s) i=(at0 r i+k*at0 s i)%p:=yD hi;have e1:=Kq (at0 r i+k*at0 s i) (show p≠0 by omega);have e2:=Kh (at0 r i+k*at0 s i) (show 0<p by omega);omega
theorem zCe{k b:Int}(hk:-7≤k∧k≤7)(hb:0≤b∧b≤p-1):-49≤k*b∧k*b≤49:=by
 have h7:=hp.pos;rcases Int.le_total 0 k with h|h
 ·have h1:=Gy h hb.1
  have h2:=H0 hk.2 (show b≤7 by omega) hb.1 (by omega);omega
 ·have h1:=Gy (show 0≤ -k by omega) hb.1
  have h2:=H0 (show -k≤7 by omega) (show b≤7 by omega) hb.1 (by omega);rw[Int.neg_mul]at h1 h2;omega
theorem zFn{D:Nat}{r s:List Int}{k:Int}(hr:Row p D r)(hs:Row p D s)(hk:-7≤k∧k≤7)(hD:D≤1000000):f_M r s k p=jq (sE p D r k s):=by
 have h7:=hp.pos;have:=zU (body:=zS6 r s k p) (r:=sE p D r k s) (fun i=>(zHA p D i r k s,(i:Int))) D (fun i hi=>by
  have a1:=hr.2 i hi;have a2:=hs.2 i hi;have a3:=zCe hp hk a2;unfold zS6;simp only
  rw[hr.1,xH hi,zJ,xV (by grind[zE6]),bs,xV (by rw[hs.1];exact hi),bs,zH (by omega) (by omega),bs,zNZ hi,zH (by omega) (by omega),bs,zKU hp (by omega) (by omega),bs,bs,zH (by omega) (by omega),bs,cs,J9,zKT rfl]) (by
  unfold zS6;simp only
  rw[hr.1,wW,zK,zIz])
 rw[show((0:Nat):Int)=0 from rfl,zIy hr.1]at this
 grind[f_M]
theorem zCO{D:Nat}{r s:List Int}{k:Int}(hr:Row p D r)(hs:Row p D s)(hk:-7≤k∧k≤7)(hD:D≤1000000):f_V p r k s=jq (sE p D r k s):=by
 have h7:=hp.pos;have:=zU (body:=zSD p k s) (r:=sE p D r k s) (fun i=>(zHA p D i r k s,(i:Int))) D (fun i hi=>by
  have a1:=hr.2 i hi;have a2:=hs.2 i hi;have a3:=zCe hp hk a2;unfold zSD;simp only
  rw[zE6,xH hi,zJ,hs.1,xH hi,zJ,xV (by grind[zE6]),bs,xV (by rw[hs.1];exact hi),bs,zH (by omega) (by omega),bs,zNZ hi,zH (by omega) (by omega),bs,zKV hp (by omega) (by omega),bs,bs,zH (by omega) (by omega),bs,cs,J9,zKT rfl]) (by
  unfold zSD;simp only
  rw[zE6,wW,zK,zIz])
 rw[show((0:Nat):Int)=0 from rfl,zIy hr.1]at this;unfold f_V;rw[uS (by rw[hr.1];omega),bs,this,bs]
end
end Go.Pl

namespace Go.Pl
open Go Go.Ab Go.Wk Go.Pc
def VOk(n:Nat)(p:Int)(D:Nat)(vals:Mx):Prop:=vals.length=n∧ ∀i,i<n→Row p D (vals.getD i [])
abbrev z0(D:Nat):List Int:=J1 D 0
theorem zR5{p:Int}{D:Nat}(hp:0<p):Row p D (z0 D):=by
 refine⟨by simp,fun i hi=>?_⟩
 grind
theorem zCP{p:Int}{D:Nat}{r:List Int}{B:Mx}(hp:0<p):Row p D (zA2 p D r B):=by
 refine⟨yG _ _,fun i hi=>?_⟩;have e1:=Kq (S D (fun l=>at0 r l*ent B l i)) (show p≠0 by omega);have e2:=Kh (S D (fun l=>at0 r l*ent B l i)) hp
 grind[zA2,yD]
end Go.Pl

namespace Go.Pl
open Go Go.Ab Go.Wk Go.Pc
theorem zOa{a b:Int}(h:a=b):(a==b)=js:=by simp[h]
theorem zBw{a b:Int}(h:a≠b):(a==b)=jt:=by simp[h]
end Go.Pl

namespace Go.Pl
open Go Go.Ab Go.Wk Go.Pc
end Go.Pl

namespace Go.Pl
open Go Go.Ab Go.Wk Go.Pc
def Sp(p:Int)(n:Nat)(R:Mx)(v:List Int):Prop:=∃c:Nat→Int,∀j,j<n→(S R.length fun i=>c i*ent R i j)%p=at0 v j%p
section
variable {p:Int}{n:Nat}{R R':Mx}{u v w:List Int}
theorem jZ{i:Nat}(hi:i<R.length):Sp p n R (R.getD i []):=by
 refine⟨fun l=>if l=i then 1 else 0,fun j _=>?_⟩
 grind[zBO]
theorem zB3{k:Int}(hv:Sp p n R v)(hw:Sp p n R w)(h:∀j,j<n→at0 u j%p=(at0 v j+k*at0 w j)%p):Sp p n R u:=by
 obtain⟨c,hc⟩:=hv;obtain⟨d,hd⟩:=hw;refine⟨fun i=>c i+k*d i,fun j hj=>?_⟩;have e:(S R.length fun i=>(c i+k*d i)*ent R i j)=(S R.length fun i=>c i*ent R i j)+k*(S R.length fun i=>d i*ent R i j):=by
  rw[←zDT,←zKQ]
  grind
 rw[e,h j hj,Jv,hc j hj,Jq,hd j hj,←Jq,←Jv]
theorem zE7(h:∀j,j<n→at0 u j%p=0):Sp p n R u:=by refine⟨fun _=>0,fun j hj=>?_⟩;rw[h j hj,vU (g:=fun _=>0) (fun i _=>by simp),zA8];simp
theorem zA3(h:∀i,i<R.length→Sp p n R' (R.getD i []))(hv:Sp p n R v):Sp p n R' v:=by
 obtain⟨c,hc⟩:=hv;have key:∀m,m≤R.length→ ∃d:Nat→Int,∀j,j<n→(S R'.length fun i=>d i*ent R' i j)%p=(S m fun i=>c i*ent R i j)%p:=by
  intro m
  induction m with
  |zero=>intro _;exact⟨fun _=>0,fun j _=>by rw[vU (g:=fun _=>0) (fun i _=>by simp),zA8];rfl⟩
  |succ m ih=>
   intro hm;obtain⟨d,hd⟩:=ih (by omega);obtain⟨e,he⟩:=h m (by omega);refine⟨fun i=>d i+c m*e i,fun j hj=>?_⟩;have e1:(S R'.length fun i=>(d i+c m*e i)*ent R' i j)=(S R'.length fun i=>d i*ent R' i j)+c m*(S R'.length fun i=>e i*ent R' i j):=by
    rw[←zDT,←zKQ]
    grind
   rw[e1,Jv,hd j hj,Jq,he j hj,←Jq,←Jv];rfl
 obtain⟨d,hd⟩:=key R.length (J7 _);exact⟨d,by grind⟩
end
def jV(p:Int)(n:Nat)(R R':Mx):Prop:=(∀i,i<R.length→Sp p n R' (R.getD i []))∧ ∀i,i<R'.length→Sp p n R (R'.getD i [])
theorem jV.refl{p:Int}{n:Nat}{R:Mx}:jV p n R R:=⟨fun _ h=>jZ h,fun _ h=>jZ h⟩
theorem jV.symm{p:Int}{n:Nat}{R R':Mx}(h:jV p n R R'):jV p n R' R:=⟨h.2,h.1⟩
theorem jV.trans{p:Int}{n:Nat}{R R' R2:Mx}(h:jV p n R R')(h':jV p n R' R2):jV p n R R2:=⟨fun i hi=>zA3 h'.1 (h.1 i hi),fun i hi=>zA3 h.2 (h'.2 i hi)⟩
theorem jV.iff{p:Int}{n:Nat}{R R':Mx}{v:List Int}(h:jV p n R R'):Sp p n R v↔Sp p n R' v:=⟨fun g=>zA3 h.1 g,fun g=>zA3 h.2 g⟩
structure Red (p:Int) (n:Nat) (R:Mx) (pv:Nat→Nat):Prop where
 row:∀i,i<R.length→Row p n (R.getD i [])
 lt:∀i,i<R.length→pv i<n
 one:∀i,i<R.length→ent R i (pv i)=1
 low:∀i,i<R.length→ ∀j,j<pv i→ent R i j=0
 off:∀i k,i<R.length→k<R.length→k≠i→ent R k (pv i)=0
 mono:∀i j,i<j→j<R.length→pv i<pv j
section
variable {p:Int} (hp:1<p) {n:Nat}{R R':Mx}{pv pv':Nat→Nat}{v:List Int}
theorem Red.coef(h:Red p n R pv){c:Nat→Int}(hc:∀j,j<n→(S R.length fun i=>c i*ent R i j)%p=at0 v j%p){k:Nat}(hk:k<R.length):c k%p=at0 v (pv k)%p:=by rw[←hc (pv k) (h.lt k hk),zBO (k:=k) hk (fun i hi gf=>by rw[h.off k i hk hi gf];simp),h.one k hk];simp
theorem Red.expand(h:Red p n R pv)(hv:Sp p n R v):∀j,j<n→at0 v j%p=(S R.length fun i=>at0 v (pv i)*ent R i j)%p:=by obtain⟨c,hc⟩:=hv;intro j hj;rw[←hc j hj];exact zCL fun i hi=>by rw[Jq,h.coef hc hi,←Jq]
theorem Red.lead(h:Red p n R pv)(hv:Sp p n R v)(gf:∃j,j<n∧at0 v j%p≠0):∃i,i<R.length∧(∀j,j<pv i→at0 v j%p=0)∧at0 v (pv i)%p≠0:=by
 have hx:=h.expand hv;have h1:∃i,i<R.length∧at0 v (pv i)%p≠0:=by
  refine Classical.byContradiction fun hn=>?_
  obtain⟨j,hj,hj2⟩:=gf;refine hj2 ?_;rw[hx j hj,zCL (g:=fun _=>0) (fun i hi=>by
   have:at0 v (pv i)%p=0:=by grind
   rw[Jq,this];simp),zA8];rfl
 obtain⟨i,⟨hi,er⟩,eF⟩:=zCq h1;refine⟨i,hi,fun j hj=>?_,er⟩;have fQ:j<n:=Nat.lt_trans hj (h.lt i hi);rw[hx j fQ,zCL (g:=fun _=>0) (fun k hk=>by
  rcases Jf k i with hki|hki
  ·have:at0 v (pv k)%p=0:=by grind
   rw[Jq,this];simp
  ·have h2:pv i≤pv k:=by
    rcases Jf i k with h3|h3
    ·exact Nat.le_of_lt (h.mono i k h3 hk)
    grind
   rw[h.low k hk j (by omega)];simp),zA8];rfl
 include hp
theorem Red.row_lead(h:Red p n R pv){i:Nat}(hi:i<R.length):(∃j,j<n∧at0 (R.getD i []) j%p≠0)∧(∀j,j<pv i→at0 (R.getD i []) j%p=0)∧at0 (R.getD i []) (pv i)%p≠0:=by
 have h1:at0 (R.getD i []) (pv i)%p≠0:=by have:=h.one i hi;simp only[ent]at this;rw[this,Jb (by omega) hp];omega
 refine⟨⟨pv i,h.lt i hi,h1⟩,fun j hj=>?_,h1⟩;have:=h.low i hi j hj
 simp_all
theorem Red.piv_in(h:Red p n R pv)(h':Red p n R' pv')(hs:∀i,i<R.length→Sp p n R' (R.getD i [])){i:Nat}(hi:i<R.length):∃k,k<R'.length∧pv' k=pv i:=by
 obtain⟨g1,g2,g3⟩:=h.row_lead hp hi;obtain⟨k,hk,g4,g5⟩:=h'.lead (hs i hi) g1
 grind
theorem Red.piv_eq(h:Red p n R pv)(h':Red p n R' pv')(hs:jV p n R R'):∀i,(i<R.length↔i<R'.length)∧(i<R.length→pv i=pv' i):=by
 intro i
 induction i using Gg with
 |_ i ih=>
  have a:i<R.length→i<R'.length∧pv' i≤pv i:=fun hi=>by
   obtain⟨k,hk,e⟩:=h.piv_in hp h' hs.1 hi;have hki:i≤k:=by
    refine Classical.byContradiction fun hn=>?_
    have h1:=(ih k (by omega)).2 (by omega);have h2:=h.mono k i (by omega) hi;omega
   refine⟨by omega,?_⟩;rcases Jf i k with h3|h3
   ·have:=h'.mono i k h3 hk;omega
   grind
  have b:i<R'.length→i<R.length∧pv i≤pv' i:=fun hi=>by
   obtain⟨k,hk,e⟩:=h'.piv_in hp h hs.2 hi;have hki:i≤k:=by
    refine Classical.byContradiction fun hn=>?_
    have h1:=(ih k (by omega)).2 hk;have h2:=h'.mono k i (by omega) hi;omega
   refine⟨by omega,?_⟩;rcases Jf i k with h3|h3
   ·have:=h.mono i k h3 hk;omega
   grind
  omega
theorem Red.unique(h:Red p n R pv)(h':Red p n R' pv')(hs:jV p n R R'):R=R':=by
 have hpe:=h.piv_eq hp h' hs;have hl:R.length=R'.length:=by
  rcases H4 R.length R'.length with g|g|g
  all_goals grind
 refine zHb (D:=R.length) rfl hl.symm fun i hi=>?_
 have eL:i<R'.length:=by omega
 have r1:=h.row i hi;have r2:=h'.row i eL;rw[tM r1.1,tM r2.1];refine yV fun j hj=>?_
 have hx:=h'.expand (hs.1 i hi) j hj;rw[vU (g:=fun k=>(if k=i then 1 else 0)*ent R' k j) (fun k hk=>by
  congr 1
  have e:=(hpe k).2 (by omega)
  by_cases hki:k=i
  ·subst hki;rw[if_pos rfl,←e];exact h.one k hi
  ·rw[if_neg hki,←e];exact h.off k i (by omega) hi (Ne.symm hki)),zBO (k:=i) eL (fun k _ hk=>by simp[hk])]at hx
 simp only[if_true,Hj,ent]at hx;have a1:=r1.2 j hj;have a2:=r2.2 j hj;rw[Jb a1.1 (by omega),Jb a2.1 (by omega)]at hx;exact hx
end
end Go.Pl

namespace Go.Pl
open Go Go.Ab Go.Wk Go.Pc
def mkR(m:Nat)(F:Nat→List Int):Mx:=(Ju m).map F
theorem sB{m:Nat}{F:Nat→List Int}:(mkR m F).length=m:=by simp[mkR]
theorem zAt{m:Nat}{F:Nat→List Int}{i:Nat}(h:i<m):(mkR m F).getD i []=F i:=by simp[mkR,J2,h]
theorem zJx{m:Nat}{F:Nat→List Int}{i:Nat}(h:i<m):ixO (mkR m F) (i:Int)=jq (F i):=by rw[yO [] (by grind[sB]),zAt h]
theorem kW{m:Nat}{F G:Nat→List Int}(h:∀i,i<m→F i=G i):mkR m F=mkR m G:=by grind[mkR,U7]
theorem zR6{R:Mx}{m:Nat}(h:R.length=m):R=mkR m (fun i=>R.getD i []):=zHb (D:=m) h sB (by grind[zAt])
theorem zFY{m:Nat}{F:Nat→List Int}{i:Nat}{a:List Int}:(mkR m F).set i a=mkR m (fun k=>if k=i then a else F k):=by
 apply Kl;intro k
 by_cases hk:k<m
 ·by_cases h:i=k
  ·grind[mkR]
  ·rw[Jaj h];simp[mkR,hk,Ne.symm h]
 grind[mkR]
theorem zE8{m:Nat}{F:Nat→List Int}{i j:Nat}(h:i<m):ent (mkR m F) i j=at0 (F i) j:=by simp only[ent,zAt h]
theorem zR7{s:Nat→Int×Int×Int×Int}(n:Nat){r:Int×Int}(h:∀i,i<n→zIE (s i)=jq (.inl (s (i+1))))(he:zIE (s n)=jq (.inr r)){p q:Int}(hq:zMV r.2 p=jq q)(h1:r.1=1)(hs:s 0=(p,(s 0).2.1,0,1)):
  zL1 (s 0).2.1 p=jq (q,js):=by
 unfold zL1;rw[←hs,zU s n h he,bs,hq,bs,h1];rfl
def zR8:List (Int×Int×Int×Int)→Nat→Int×Int×Int×Int:=fun l i=>l.getD i (0,0,0,0)
theorem tE(l:List (Int×Int×Int×Int))(n:Nat){r:Int×Int}(h:∀i,i<n→zIE (zR8 l i)=jq (.inl (zR8 l (i+1))))(he:zIE (zR8 l n)=jq (.inr r)){p q x:Int}(hq:zMV r.2 p=jq q)(h1:r.1=1)(hs:zR8 l 0=(p,x,0,1)):
  zL1 x p=jq (q,js):=by
 have:=zR7 (s:=zR8 l) n h he hq h1 (by rw[hs])
 grind
theorem lt1{P:Nat→Prop}(h0:P 0):∀i,i<1→P i:=by grind
theorem lt2{P:Nat→Prop}(h0:P 0)(h1:P 1):∀i,i<2→P i:=by grind
theorem lt3{P:Nat→Prop}(h0:P 0)(h1:P 1)(h2:P 2):∀i,i<3→P i:=by grind
theorem zCf{p x:Int}(hp:Prime p)(h0:1≤x)(h1:x≤p-1):∃r,zL1 x p=jq (r,js)∧0≤r∧r≤p-1∧(x*r)%p=1:=by
 have c:(p=2∧x=1)∨(p=3∧(x=1∨x=2))∨(p=5∧(x=1∨x=2∨x=3∨x=4))∨(p=7∧(x=1∨x=2∨x=3∨x=4∨x=5∨x=6)):=by unfold Prime at hp;omega
 rcases c with⟨rfl,rfl⟩|⟨rfl,rfl|rfl⟩|⟨rfl,rfl|rfl|rfl|rfl⟩|⟨rfl,rfl|rfl|rfl|rfl|rfl|rfl⟩
 ·exact⟨1,tE [(2,1,0,1),(1,0,1,-2)] 1 (lt1 (by rfl)) (r:=(1,1)) (by rfl) (by rfl) rfl rfl,by decide,by decide,by decide⟩
 ·exact⟨1,tE [(3,1,0,1),(1,0,1,-3)] 1 (lt1 (by rfl)) (r:=(1,1)) (by rfl) (by rfl) rfl rfl,by decide,by decide,by decide⟩
 ·exact⟨2,tE [(3,2,0,1),(2,1,1,-1),(1,0,-1,3)] 2 (lt2 (by rfl) (by rfl)) (r:=(1,-1)) (by rfl) (by rfl) rfl rfl,by decide,by decide,by decide⟩
 ·exact⟨1,tE [(5,1,0,1),(1,0,1,-5)] 1 (lt1 (by rfl)) (r:=(1,1)) (by rfl) (by rfl) rfl rfl,by decide,by decide,by decide⟩
 ·exact⟨3,tE [(5,2,0,1),(2,1,1,-2),(1,0,-2,5)] 2 (lt2 (by rfl) (by rfl)) (r:=(1,-2)) (by rfl) (by rfl) rfl rfl,by decide,by decide,by decide⟩
 ·exact⟨2,tE [(5,3,0,1),(3,2,1,-1),(2,1,-1,2),(1,0,2,-5)] 3 (lt3 (by rfl) (by rfl) (by rfl)) (r:=(1,2)) (by rfl) (by rfl) rfl rfl,by decide,by decide,by decide⟩
 ·exact⟨4,tE [(5,4,0,1),(4,1,1,-1),(1,0,-1,5)] 2 (lt2 (by rfl) (by rfl)) (r:=(1,-1)) (by rfl) (by rfl) rfl rfl,by decide,by decide,by decide⟩
 ·exact⟨1,tE [(7,1,0,1),(1,0,1,-7)] 1 (lt1 (by rfl)) (r:=(1,1)) (by rfl) (by rfl) rfl rfl,by decide,by decide,by decide⟩
 ·exact⟨4,tE [(7,2,0,1),(2,1,1,-3),(1,0,-3,7)] 2 (lt2 (by rfl) (by rfl)) (r:=(1,-3)) (by rfl) (by rfl) rfl rfl,by decide,by decide,by decide⟩
 ·exact⟨5,tE [(7,3,0,1),(3,1,1,-2),(1,0,-2,7)] 2 (lt2 (by rfl) (by rfl)) (r:=(1,-2)) (by rfl) (by rfl) rfl rfl,by decide,by decide,by decide⟩
 ·exact⟨2,tE [(7,4,0,1),(4,3,1,-1),(3,1,-1,2),(1,0,2,-7)] 3 (lt3 (by rfl) (by rfl) (by rfl)) (r:=(1,2)) (by rfl) (by rfl) rfl rfl,by decide,by decide,by decide⟩
 ·exact⟨3,tE [(7,5,0,1),(5,2,1,-1),(2,1,-1,3),(1,0,3,-7)] 3 (lt3 (by rfl) (by rfl) (by rfl)) (r:=(1,3)) (by rfl) (by rfl) rfl rfl,by decide,by decide,by decide⟩
 ·exact⟨6,tE [(7,6,0,1),(6,1,1,-1),(1,0,-1,7)] 2 (lt2 (by rfl) (by rfl)) (r:=(1,-1)) (by rfl) (by rfl) rfl rfl,by decide,by decide,by decide⟩
end Go.Pl

namespace Go.Pl
open Go Go.Ab Go.Wk Go.Pc
structure zPd (p:Int) (n m:Nat) (rows:Mx) (c:Nat) (M:Mx) (d:Nat) (pv:Nat→Nat):Prop where
 len:M.length=m
 row:∀i,i<m→Row p n (M.getD i [])
 dm:d≤m
 lt:∀i,i<d→pv i<c
 one:∀i,i<d→ent M i (pv i)=1
 low:∀i,i<d→ ∀j,j<pv i→ent M i j=0
 off:∀i k,i<d→k<m→k≠i→ent M k (pv i)=0
 mono:∀i j,i<j→j<d→pv i<pv j
 zero:∀k,d≤k→k<m→ ∀j,j<c→ent M k j=0
 sp:jV p n M rows
theorem zCg{p:Int}{n m:Nat}{F:Nat→List Int}{i:Nat}(h:i<m):Sp p n (mkR m F) (F i):=by
 have:=jZ (p:=p) (n:=n) (R:=mkR m F) (i:=i) (by grind[sB])
 grind[zAt]
theorem zR9(a e r p:Int):a%p=((a+(0-e)*r)%p+e*r)%p:=by rw[Jv,K0,←Jv,show a+(0-e)*r+e*r=a from by grind]
section
variable {p:Int} (hp:Prime p) {n m:Nat}{rows:Mx}{c:Nat}{M:Mx}{d:Nat}{pv:Nat→Nat} (h:zPd p n m rows c M d pv) (hc:c<n) (hd:d<m)
 include hp h hc hd
theorem zPd.pivot{t:Nat}(ht:d≤t)(al:t<m)(gf:ent M t c≠0){q:Int}(hq:(ent M t c*q)%p=1):
  zPd p n m rows (c+1) (mkR m fun i=>if i=d then mkv n fun j=>(ent M t j*q)%p else sE p n (if i=t then M.getD d []else M.getD i []) (0-at0 (if i=t then M.getD d []else M.getD i []) c) (mkv n fun j=>(ent M t j*q)%p)) (d+1) (fun i=>if i=d then c else pv i):=by
 have h7:=hp.pos;have pr:∀j,j<n→at0 (mkv n fun j=>(ent M t j*q)%p) j=(ent M t j*q)%p:=fun j hj=>yD hj
 have p0:∀j,j<c→(ent M t j*q)%p=0:=fun j hj=>by rw[h.zero t ht al j hj];simp
 have prow:Row p n (mkv n fun j=>(ent M t j*q)%p):=⟨yG _ _,fun j hj=>by have e1:=Kq (ent M t j*q) (show p≠0 by omega);have e2:=Kh (ent M t j*q) (show 0<p by omega);rw[pr j hj];omega⟩
 have hG:∀i,i<m→i≠d→Row p n (if i=t then M.getD d []else M.getD i []):=fun i hi _=>by
  split
  ·exact h.row d hd
  ·exact h.row i hi
 have eo:∀i j,i<m→i≠d→j<n→ent (mkR m fun i=>if i=d then mkv n fun j=>(ent M t j*q)%p else sE p n (if i=t then M.getD d []else M.getD i []) (0-at0 (if i=t then M.getD d []else M.getD i []) c) (mkv n fun j=>(ent M t j*q)%p)) i j=(at0 (if i=t then M.getD d []else M.getD i []) j+(0-at0 (if i=t then M.getD d []else M.getD i []) c)*((ent M t j*q)%p))%p:=fun i j hi ep hj=>by rw[zE8 hi,if_neg ep,sE,yD hj,pr j hj]
 have el:∀i j,i<m→i≠d→j<c→ent (mkR m fun i=>if i=d then mkv n fun j=>(ent M t j*q)%p else sE p n (if i=t then M.getD d []else M.getD i []) (0-at0 (if i=t then M.getD d []else M.getD i []) c) (mkv n fun j=>(ent M t j*q)%p)) i j=at0 (if i=t then M.getD d []else M.getD i []) j:=fun i j hi ep hj=>by rw[eo i j hi ep (by omega),p0 j hj,L3,Kd];have:=(hG i hi ep).2 j (by omega);exact Jb this.1 (by omega)
 have ed:∀j,j<n→ent (mkR m fun i=>if i=d then mkv n fun j=>(ent M t j*q)%p else sE p n (if i=t then M.getD d []else M.getD i []) (0-at0 (if i=t then M.getD d []else M.getD i []) c) (mkv n fun j=>(ent M t j*q)%p)) d j=(ent M t j*q)%p:=fun j hj=>by rw[zE8 hd,if_pos rfl,pr j hj]
 have ec:∀i,i<m→i≠d→ent (mkR m fun i=>if i=d then mkv n fun j=>(ent M t j*q)%p else sE p n (if i=t then M.getD d []else M.getD i []) (0-at0 (if i=t then M.getD d []else M.getD i []) c) (mkv n fun j=>(ent M t j*q)%p)) i c=0:=fun i hi ep=>by rw[eo i c hi ep hc,hq,Kf];rw[show at0 (if i=t then M.getD d []else M.getD i []) c+(0-at0 (if i=t then M.getD d []else M.getD i []) c)=0 from by omega];simp
 have eW:∀i,i<d→(if i=t then M.getD d []else M.getD i [])=M.getD i []:=fun i hi=>by rw[if_neg (by omega)]
 have bO:∀i,d≤i→i<m→ ∀j,j<c→at0 (if i=t then M.getD d []else M.getD i []) j=0:=fun i hi er j hj=>by
  split
  ·exact h.zero d (J7 _) hd j hj
  ·exact h.zero i hi er j hj
 refine⟨sB,fun i hi=>?_,by omega,fun i hi=>?_,fun i hi=>?_,fun i hi j hj=>?_,fun i k hi hk ep=>?_,fun i j ea hj=>?_,fun k hk fP j hj=>?_,?_⟩
 ·rw[zAt hi]
  split
  ·exact prow
  ·exact zCN hp
 ·by_cases ei:i=d
  ·rw[if_pos ei];omega
  ·rw[if_neg ei];have:=h.lt i (by omega);omega
 ·by_cases ei:i=d
  ·subst ei;rw[if_pos rfl,ed c hc,hq]
  ·have h1:=h.lt i (by omega)
   rw[if_neg ei,el i _ (by omega) ei h1,eW i (by omega)];exact h.one i (by omega)
 ·by_cases ei:i=d
  ·subst ei
   rw[if_pos rfl]at hj;rw[ed j (by omega),p0 j hj]
  ·rw[if_neg ei]at hj
   have h1:=h.lt i (by omega);rw[el i j (by omega) ei (by omega),eW i (by omega)];exact h.low i (by omega) j hj
 ·by_cases ei:i=d
  ·subst ei
   rw[if_pos rfl];exact ec k hk ep
  ·have h1:=h.lt i (by omega)
   rw[if_neg ei]
   by_cases mq:k=d
   ·subst mq
    rw[ed _ (by omega),h.off i t (by omega) al (by omega)];simp
   ·rw[el k _ hk mq h1]
    split
    ·exact h.off i d (by omega) hd (Ne.symm ei)
    ·exact h.off i k (by omega) hk ep
 ·by_cases hjd:j=d
  ·subst hjd
   rw[if_pos rfl,if_neg (by omega)];exact h.lt i (by omega)
  ·rw[if_neg hjd,if_neg (by omega)];exact h.mono i j ea (by omega)
 ·rcases Jf j c with hjc|hjc
  ·rw[el k j fP (by omega) hjc];exact bO k (by omega) fP j hjc
  ·rw[show j=c from by omega];exact ec k fP (by omega)
 ·refine jV.trans ⟨fun i hi=>?_,fun i hi=>?_⟩ h.sp
  ·rw[sB]at hi
   rw[zAt hi];have hr:Sp p n M (mkv n fun j=>(ent M t j*q)%p):=by
    refine zB3 (k:=q) (zE7 (u:=[]) fun j _=>by simp[at0]) (jZ (R:=M) (i:=t) (by rw[h.len];exact al)) fun j hj=>?_
    rw[pr j hj,K0,Lp];simp[at0]
   split
   ·exact hr
   ·refine zB3 (k:=0-at0 (if i=t then M.getD d []else M.getD i []) c) (v:=if i=t then M.getD d []else M.getD i []) ?_ hr fun j hj=>?_
    ·split
     ·exact jZ (by rw[h.len];exact hd)
     ·exact jZ (by rw[h.len];exact hi)
    ·rw[sE,yD hj,K0]
  ·rw[h.len]at hi
   have hr:=zCg (p:=p) (n:=n) (m:=m) (F:=fun i=>if i=d then mkv n fun j=>(ent M t j*q)%p else sE p n (if i=t then M.getD d []else M.getD i []) (0-at0 (if i=t then M.getD d []else M.getD i []) c) (mkv n fun j=>(ent M t j*q)%p)) hd;simp only[if_true]at hr;have hg:∀k,k<m→k≠d→Sp p n (mkR m fun i=>if i=d then mkv n fun j=>(ent M t j*q)%p else sE p n (if i=t then M.getD d []else M.getD i []) (0-at0 (if i=t then M.getD d []else M.getD i []) c) (mkv n fun j=>(ent M t j*q)%p)) (if k=t then M.getD d []else M.getD k []):=fun k hk mq=>by
    have h1:=zCg (p:=p) (n:=n) (m:=m) (F:=fun i=>if i=d then mkv n fun j=>(ent M t j*q)%p else sE p n (if i=t then M.getD d []else M.getD i []) (0-at0 (if i=t then M.getD d []else M.getD i []) c) (mkv n fun j=>(ent M t j*q)%p)) hk;simp only[if_neg mq]at h1;refine zB3 (k:=at0 (if k=t then M.getD d []else M.getD k []) c) h1 hr fun j hj=>?_
    rw[sE,yD hj,pr j hj];exact zR9 _ _ _ _
   by_cases pi:i=t
   ·
    subst pi;refine zB3 (k:=ent M i c) (zE7 (u:=[]) fun j _=>by simp[at0]) hr fun j hj=>?_
    rw[pr j hj];have e1:(ent M i c*((ent M i j*q)%p))%p=(ent M i j*((ent M i c*q)%p))%p:=by
     rw[Jq,K0,←Jq,Jq (ent M i j),K0,←Jq]
     congr 1
     rw[←H5,←H5,Lp (ent M i c)]
    rw[show at0 ([]:List Int) j=0 from by simp[at0],Jz,e1,hq,Kf]
   ·by_cases ei:i=d
    ·subst ei
     have:=hg t al (by omega);rw[if_pos rfl]at this;exact this
    ·have:=hg i hi ei
     rw[if_neg pi]at this;exact this
end
end Go.Pl

namespace Go.Pl
open Go Go.Ab Go.Wk Go.Pc
theorem zCh{v:List Int}(h:v.length≤1000000):f_H v=jq v:=by grind[f_H,zT]
theorem zHB{rows:Mx}(hm:rows.length≤1000000)(hn:∀i,i<rows.length→(rows.getD i []).length≤1000000):zVd rows=jq rows:=by
 unfold zVd;have:=zU (body:=zL0 rows) (r:=rows) (fun i=>(rows.take i,(i:Int))) rows.length (fun i hi=>by
  unfold zL0;simp only
  rw[xH hi,zJ,yO [] hi,bs,zCh (hn i hi),bs,zT (by simp;omega),bs,zH (by omega) (by omega),bs,cs,Ku hi,J2,J4 hi];rfl) (by
  unfold zL0;simp)
 grind
theorem zPe{M:Mx}{d c m n:Nat}(hm:M.length=m)(hd:d≤m)(hmm:m≤1000000)(ca:∀i,i<m→(M.getD i []).length=n)(hc:c<n):
  ∃t:Nat,d≤t∧t≤m∧zC (zHF (M,(d:Int),(c:Int))) (d:Int)=jq (t:Int)∧(∀k,d≤k→k<t→ent M k c=0)∧(t<m→ent M t c≠0):=by
 have key:∀k,k≤m-d→ ∃t:Nat,m-k≤t∧t≤m∧zC (zHF (M,(d:Int),(c:Int))) ((m-k:Nat):Int)=jq (t:Int)∧(∀q,m-k≤q→q<t→ent M q c=0)∧(t<m→ent M t c≠0):=by
  intro k
  induction k with
  |zero=>
   intro _;refine⟨m,by omega,J7 _,?_,by omega,fun h=>by omega⟩;rw[yP];unfold zHF
   grind
  |succ k ih=>
   intro hk;obtain⟨t,h1,h2,h3,h4,h5⟩:=ih (by omega);have gE:m-(k+1)<m:=by omega
   by_cases hz:ent M (m-(k+1)) c=0
   ·refine⟨t,by omega,h2,?_,fun q q1 q2=>?_,h5⟩
    ·rw[yP]
     have e:zHF (M,(d:Int),(c:Int)) ((m-(k+1):Nat):Int)=jq (.inl ((m-k:Nat):Int)):=by
      unfold zHF;simp only
      rw[hm,xH gE,zJ,yO [] (by omega),bs,xV (by rw[ca _ gE];exact hc),bs,zOa hz,zJ,zH (by omega) (by omega),bs,cs,show m-(k+1)+1=m-k from by omega]
     grind
    grind
   ·refine⟨m-(k+1),J7 _,by omega,?_,by omega,fun _=>hz⟩
    rw[yP];have e:zHF (M,(d:Int),(c:Int)) ((m-(k+1):Nat):Int)=jq (.inr ((m-(k+1):Nat):Int)):=by
     unfold zHF;simp only
     rw[hm,xH gE,zJ,yO [] (by omega),bs,xV (by rw[ca _ gE];exact hc),bs,zBw hz,zK]
    rw[e]
 obtain⟨t,h1,h2,h3,h4,h5⟩:=key (m-d) (J7 _);rw[show m-(m-d)=d from by omega]at h1 h3 h4
 grind
section
variable {p:Int} (hp:Prime p) {n m:Nat}{M:Mx}{d c t:Nat}
 include hp
theorem zMt{F:Nat→List Int}{q:Int}{b:Bool}(hd:d<m)(hr:Row p n (F d))(hn:n≤1000000)(hq:0≤q∧q≤p-1){v:List Int}(hv:v.length=n){s:Mx×Int×Int}(hs:s.2.1=(d:Int)):
  zC (zL2 p s (q,b) v) (mkR m F,0)=jq (mkR m fun i=>if i=d then mkv n fun j=>(at0 (F d) j*q)%p else F i):=by
 have h7:=hp.pos;have:=zU (body:=zL2 p s (q,b) v) (r:=mkR m fun i=>if i=d then mkv n fun j=>(at0 (F d) j*q)%p else F i) (fun k=>(mkR m fun i=>if i=d then mkv n (fun j=>if j<k then(at0 (F d) j*q)%p else at0 (F d) j)else F i,(k:Int))) n (fun k hk=>by
  have a1:=hr.2 k hk;have a2:=zCe hp (k:=q) (by omega) a1;have a3:=Gy a1.1 hq.1;rw[Lp]at a2;unfold zL2;simp only
  rw[hv,xH hk,zJ,hs,zJx hd];simp only[bs,if_true];rw[xV (by grind[yG]),yD hk,if_neg (by omega)];simp only[bs];rw[zH (by omega) (by omega)];simp only[bs,xN];rw[if_neg (by omega)];simp only[bs];rw[Gb a3,zH (by omega) (by omega)];simp only[bs,J9,cs];rw[zFY]
  congr 3
  refine kW fun i _=>?_
  by_cases hi:i=d
  ·rw[if_pos hi,if_pos hi,zAs]
   grind
  grind) (by
  unfold zL2;simp only
  rw[hv,wW,zK]
  congr 2
  refine kW fun i _=>?_
  split
  ·exact yV (by omega)
  ·rfl)
 rw[show((0:Nat):Int)=0 from rfl]at this;rw[←this]
 congr 2
 refine kW fun i _=>?_
 split
 ·rename_i e;subst e
  conv=>lhs;rw[tM hr.1]
  rfl
 ·rfl
theorem zMu{F:Nat→List Int}(hd:d<m)(hc:c<n)(hr:∀i,i<m→Row p n (F i))(hn:n≤1000000)(hm:m≤1000000){r21:Mx}(hl:r21.length=m){s:Mx×Int×Int}(hs:s.2.1=(d:Int))(mb:s.2.2=(c:Int)):
  zC (zMY p s r21) (mkR m F,0)=jq (mkR m fun i=>if i=d then F d else sE p n (F i) (0-at0 (F i) c) (F d)):=by
 have h7:=hp.pos;have:=zU (body:=zMY p s r21) (r:=mkR m fun i=>if i=d then F d else sE p n (F i) (0-at0 (F i) c) (F d)) (fun k=>(mkR m fun i=>if i<k∧i≠d then sE p n (F i) (0-at0 (F i) c) (F d)else F i,(k:Int))) m (fun k hk=>by
  have a1:=(hr k hk).2 c hc;unfold zMY;simp only
  rw[hl,xH hk,zJ,hs,mb]
  by_cases mq:k=d
  ·subst mq
   rw[zF7 rfl,zK,zH (by omega) (by omega),bs,cs]
   grind
  ·rw[zE0 (by omega),zJ,zJx hk,zJx hd]
   simp only[bs,ne_eq,not_true_eq_false,and_false,if_false,Jbm,false_and];rw[xV (by rw[(hr k hk).1];exact hc)];simp only[bs];rw[zH (by omega) (by omega)];simp only[bs];rw[zFn hp (hr k hk) (hr d hd) (by omega) hn,bs,zH (by omega) (by omega)];simp only[bs,J9,cs];rw[zFY]
   grind) (by
  unfold zMY;simp only
  rw[hl,wW,zK]
  congr 2
  refine kW fun i hi=>?_
  grind)
 grind
end
end Go.Pl

namespace Go.Pl
open Go Go.Ab Go.Wk Go.Pc
theorem Red.empty{p:Int}{n:Nat}:Red p n [] (fun _=>0):=⟨by simp,by simp,by simp,by simp,by simp,by simp⟩
theorem zPd.take{p:Int}{n m:Nat}{rows:Mx}{c:Nat}{M:Mx}{d:Nat}{pv:Nat→Nat}(h:zPd p n m rows c M d pv)(aX:c≤n)(hz:∀k,d≤k→k<m→ ∀j,j<n→ent M k j=0):Red p n (M.take d) pv∧jV p n (M.take d) rows:=by
 have hl:(M.take d).length=d:=by rw[Ge,h.len];exact Nat.min_eq_left h.dm
 have hg:∀i,i<d→(M.take d).getD i []=M.getD i []:=by grind
 have dm:=h.dm;refine⟨⟨fun i hi=>?_,fun i hi=>?_,fun i hi=>?_,fun i hi j hj=>?_,fun i k hi hk gf=>?_,fun i j ea hj=>?_⟩,jV.trans ⟨fun i hi=>?_,fun i hi=>?_⟩ h.sp⟩
 ·rw[hl]at hi;rw[hg i hi];exact h.row i (by omega)
 ·rw[hl]at hi;have:=h.lt i hi;omega
 ·rw[hl]at hi;simp only[ent,hg i hi];exact h.one i hi
 ·rw[hl]at hi;simp only[ent,hg i hi];exact h.low i hi j hj
 ·rw[hl]at hi hk;simp only[ent,hg k hk];exact h.off i k hi (by omega) gf
 ·rw[hl]at hj;exact h.mono i j ea hj
 ·grind[jZ]
 ·rw[h.len]at hi
  rcases Jf i d with g|g
  ·grind[jZ]
  ·exact zE7 fun j hj=>by simp_all
section
variable {p:Int} (hp:Prime p) {n:Nat}{rows:Mx} (hn:n≤100000) (hm:rows.length≤600000) (hr:∀i,i<rows.length→Row p n (rows.getD i []))
 include hp hn hm hr
theorem zKW:∃R pv,f_d p rows=jq R∧Red p n R pv∧jV p n R rows:=by
 have h7:=hp.pos;unfold f_d;rw[zHB (by omega) (fun i hi=>by have:=(hr i hi).1;omega),bs];have main:=tU (body:=zMZ p) (s:=(rows,0,0)) (Q:=fun r=> ∃(M:Mx)(d:Nat)(pv:Nat→Nat),r=(M,(d:Int))∧d≤M.length∧Red p n (M.take d) pv∧jV p n (M.take d) rows)
  (fun i s=> ∃(M:Mx)(d:Nat)(pv:Nat→Nat),s=(M,(d:Int),(i:Int))∧zPd p n rows.length rows i M d pv∧i≤n) n (fun c s hc hI=>?_) (fun s hI=>?_) ⟨rows,0,fun _=>0,rfl,⟨rfl,hr,Jw _,fun _ h=>by omega,fun _ h=>by omega,fun _ h=>by omega,fun _ _ h=>by omega,fun _ _ _ h=>by omega,fun _ _ _ _ h=>by omega,jV.refl⟩,Jw _⟩
 ·obtain⟨r,h1,M,d,pv,rfl,hd,hR,hS⟩:=main
  rw[h1,bs];simp only
  have e:zQ M 0 (d:Int)=jq (M.take d):=by unfold zQ;rw[if_pos ⟨by omega,by omega,by omega⟩];simp
  rw[e,bs];exact⟨_,_,rfl,hR,hS⟩
 ·
  obtain⟨M,d,pv,rfl,h,aX⟩:=hI;have hl:=h.len;have pS:=h.dm
  by_cases h0:rows.length=0
  ·refine .inr ⟨(M,(d:Int)),?_,M,d,pv,rfl,by omega,h.take aX fun k hk fP=>by omega⟩
   unfold zMZ;simp only
   rw[ju (by omega),zK]
  have e0:zMZ p (M,(d:Int),(c:Int))=cond (decide ((d:Int)<(M.length:Int))) ((zC (zHF (M,(d:Int),(c:Int))) (d:Int)).bind fun r6=>
    cond (r6==(M.length:Int)) ((rng ((c:Int)+1)).bind fun v7=>jq (.inl (M,(d:Int),v7))) (
     (ixO M r6).bind fun v8=>(ixO M (d:Int)).bind fun v9=>(ixO (kK M (d:Int) r6 v8 v9) (d:Int)).bind fun v10=>(ixO v10 (c:Int)).bind fun v11=>(zL1 v11 p).bind fun r12=>
     (ixO (kK M (d:Int) r6 v8 v9) (d:Int)).bind fun v13=>(zC (zL2 p (M,(d:Int),(c:Int)) r12 v13) (kK M (d:Int) r6 v8 v9,0)).bind fun r21=>
     (zC (zMY p (M,(d:Int),(c:Int)) r21) (r21,0)).bind fun r30=>(rng ((d:Int)+1)).bind fun v31=>(rng ((c:Int)+1)).bind fun v32=>jq (.inl (r30,v31,v32)))) (jq (.inr (M,(d:Int)))):=by
   unfold zMZ;simp only
   have hx:ixO M (0:Int)=jq (M.getD 0 []):=by have:=yO (v:=M) (i:=0) [] (by omega);exact this
   rw[jw (by omega),zJ,hx];simp only[bs];rw[(h.row 0 (by omega)).1,xH hc,zJ]
  rcases Jf d rows.length with hd|hd
  ·obtain⟨t,t1,t2,t3,t4,t5⟩:=zPe (M:=M) (d:=d) (c:=c) (m:=rows.length) (n:=n) hl pS (by omega) (fun i hi=>(h.row i hi).1) hc
   rw[e0,hl,xH hd,zJ,t3];simp only[bs]
   by_cases al:t=rows.length
   ·
    left;refine⟨(M,(d:Int),((c+1:Nat):Int)),?_,M,d,pv,rfl,⟨hl,h.row,pS,fun i hi=>by have:=h.lt i hi;omega,h.one,h.low,h.off,h.mono,fun k k1 k2 j hj=>?_,h.sp⟩,by omega⟩
    ·rw[zOa (by omega),zJ,zH (by omega) (by omega),bs,cs]
    ·rcases Jf j c with g|g
     ·exact h.zero k k1 k2 j g
     ·rw[show j=c from by omega];exact t4 k k1 (by omega)
   ·have py:t<rows.length:=by omega
    have gf:=t5 py;have eJ:=h.row t py;have hrc:=eJ.2 c hc;obtain⟨q,q1,q2,q3,q4⟩:=zCf (p:=p) (x:=ent M t c) hp (by simp only[ent]at gf ⊢;omega) (by simp only[ent];omega);left;have hM:M=mkR rows.length (fun i=>M.getD i []):=zR6 hl;obtain⟨F,hF⟩:∃F:Nat→List Int,∀i,F i=if i=t then M.getD d []else if i=d then M.getD t []else M.getD i []:=⟨_,fun _=>rfl⟩
    have hsw:kK M (d:Int) (t:Int) (M.getD t []) (M.getD d [])=mkR rows.length F:=by
     unfold kK;rw[J9,J9]
     conv=>lhs;rw[hM]
     rw[zFY,zFY];exact kW fun i hi=>by rw[hF,zAt hd,zAt py]
    have mf:∀i,i<rows.length→Row p n (F i):=fun i hi=>by
     rw[hF];split
     ·exact h.row d hd
     ·split
      ·exact eJ
      ·exact h.row i hi
    have hFd:F d=M.getD t []:=by
     rw[hF]
     by_cases e:d=t
     ·rw[if_pos e,e]
     ·rw[if_neg e,if_pos rfl]
    obtain⟨G,hG⟩:∃G:Nat→List Int,∀i,G i=if i=d then mkv n fun j=>(at0 (F d) j*q)%p else F i:=⟨_,fun _=>rfl⟩
    have hGd:G d=mkv n fun j=>(ent M t j*q)%p:=by rw[hG,if_pos rfl,hFd]
    have hGo:∀i,i≠d→G i=if i=t then M.getD d []else M.getD i []:=fun i ei=>by rw[hG,if_neg ei,hF];simp only[ei,if_false]
    have bS:zC (zL2 p (M,(d:Int),(c:Int)) (q,js) (M.getD t [])) (mkR rows.length F,0)=jq (mkR rows.length G):=by
     rw[zMt hp (F:=F) hd (mf d hd) (by omega) ⟨q2,q3⟩ eJ.1 rfl]
     congr 1
     exact kW fun i _=>(hG i).symm
    have hF3:∀i,i<rows.length→Row p n (G i):=fun i hi=>by
     rw[hG];split
     ·refine⟨yG _ _,fun j hj=>?_⟩
      have e1:=Kq (at0 (F d) j*q) (show p≠0 by omega);have e2:=Kh (at0 (F d) j*q) (show 0<p by omega);rw[yD hj];omega
     ·exact mf i hi
    have gK:=zMu hp (c:=c) (F:=G) hd hc hF3 (by omega) (by omega) (r21:=mkR rows.length G) sB (s:=(M,(d:Int),(c:Int))) rfl rfl;rw[zBw (by omega),zK,yO [] (by omega),yO [] (by omega)];simp only[bs];rw[hsw,zJx hd,hFd];simp only[bs];rw[xV (by rw[eJ.1];exact hc)];simp only[bs];rw[show at0 (M.getD t []) c=ent M t c from rfl,q1];simp only[bs];rw[bS];simp only[bs];rw[gK];simp only[bs];rw[zH (by omega) (by omega),zH (by omega) (by omega)];simp only[bs,cs];have bx:=h.pivot hp hc hd t1 py gf q4;refine⟨_,rfl,_,d+1,fun i=>if i=d then c else pv i,rfl,?_,by omega⟩;have e3:(mkR rows.length fun i=>if i=d then G d else sE p n (G i) (0-at0 (G i) c) (G d))=(mkR rows.length fun i=>if i=d then mkv n fun j=>(ent M t j*q)%p else sE p n (if i=t then M.getD d []else M.getD i []) (0-at0 (if i=t then M.getD d []else M.getD i []) c) (mkv n fun j=>(ent M t j*q)%p)):=by
     refine kW fun i hi=>?_
     rw[hGd]
     by_cases ei:i=d
     ·rw[if_pos ei,if_pos ei]
     ·rw[if_neg ei,if_neg ei,hGo i ei]
    rw[e3];exact bx
  ·
   refine .inr ⟨(M,(d:Int)),?_,M,d,pv,rfl,by omega,h.take aX fun k hk fP=>by omega⟩;rw[e0,ju (by omega),zK]
 ·
  obtain⟨M,d,pv,rfl,h,aX⟩:=hI;have hl:=h.len;have pS:=h.dm;refine⟨(M,(d:Int)),?_,M,d,pv,rfl,by omega,h.take aX fun k hk fP j hj=>h.zero k hk fP j hj⟩;unfold zMZ;simp only
  by_cases h0:rows.length=0
  ·rw[ju (by omega),zK]
  ·have hx:ixO M (0:Int)=jq (M.getD 0 []):=by
    have:=yO (v:=M) (i:=0) [] (by omega);exact this
   rw[jw (by omega),zJ,hx];simp only[bs];rw[(h.row 0 (by omega)).1,wW,zK]
end
end Go.Pl

namespace Go.Pl
open Go Go.Ab Go.Wk Go.Pc
theorem zI0{v:List Int}{n:Nat}(hl:v.length=n)(hn:n≤1000000):∃k:Nat,k≤n∧f_A v=jq (k:Int)∧(∀j,j<k→at0 v j=0)∧(k<n→at0 v k≠0):=by
 unfold f_A;rcases chk (body:=zHG v) n 0 (Jw _) (fun i=>at0 v i=0) (fun i=>(i:Int)) (fun i _ hi _=>by
   unfold zHG;rw[hl,xH hi,zJ,xV (by omega),bs]
   by_cases h:at0 v i=0
   ·rw[zF7 h,zK,zH (by omega) (by omega),bs,cs];grind
   grind) (by
   unfold zHG
   grind)with⟨h1,h2⟩|⟨i,_,hi,h1,h2⟩
 ·grind
 ·rw[show((0:Nat):Int)=0 from rfl]at h1
  rw[h1,bs];obtain⟨k,⟨hk1,fP⟩,eF⟩:=zCq (p:=fun k=>k<n∧at0 v k≠0) ⟨i,hi,h2⟩;have hz:∀j,j<k→at0 v j=0:=by grind
  have hki:k=i:=by
   have pf:∀q,q≤k→zC (zHG v) ((k-q:Nat):Int)=jq (.inr (k:Int)):=by
    intro q
    induction q with
    |zero=>
     intro _;rw[yP];have e:zHG v ((k-0:Nat):Int)=jq (.inr (.inr (k:Int))):=by unfold zHG;rw[show k-0=k from rfl,hl,xH hk1,zJ,xV (by omega),bs,zE0 fP,zJ]
     rw[e]
    |succ q ih=>
     intro hq;rw[yP];have e:zHG v ((k-(q+1):Nat):Int)=jq (.inl ((k-q:Nat):Int)):=by unfold zHG;rw[hl,xH (by omega),zJ,xV (by omega),bs,zF7 (hz _ (by omega)),zK,zH (by omega) (by omega),bs,cs,show k-(q+1)+1=k-q from by omega]
     grind
   have:=pf k (J7 _)
   grind
  grind
theorem zDo{v:List Int}{n k:Nat}(hl:v.length=n)(hn:n≤1000000)(hk:k<n)(h0:∀j,j<k→at0 v j=0)(h1:at0 v k≠0):f_A v=jq (k:Int):=by grind[zI0]
theorem zKX{p x:Int}(hp:Prime p)(h0:1≤x)(h1:x≤p-1):∃r,zSF x p=jq r∧0≤r∧r≤p-1∧(x*r)%p=1:=by
 have h7:=hp.pos;have hx:∃k:Nat,1≤k∧(k:Int)<p∧(x*(k:Int))%p=1:=by
  obtain⟨r,_,r1,r2,r3⟩:=zCf hp h0 h1;refine⟨r.toNat,?_,by omega,by grind⟩;rcases Int.lt_or_eq_of_le r1 with g|g
  ·omega
  ·rw[←g]at r3;simp at r3
 obtain⟨k,⟨k1,k2,k3⟩,eF⟩:=zCq hx;have body:∀i:Nat,1≤i→(i:Int)<p→zL5 x p (i:Int)=cond ((x*(i:Int))%p==1) (jq (.inr (.inr (i:Int)))) (jq (.inl ((i+1:Nat):Int))):=fun i hi hip=>by
  have a3:=Gy (show 0≤x by omega) (show 0≤(i:Int)by omega);have a4:=zCe hp (k:=(i:Int)) (by omega) (b:=x) ⟨by omega,h1⟩;rw[Lp]at a4;unfold zL5;rw[jw hip,zJ,zKV hp (by omega) (by omega),bs,Jb (by omega) (by omega),zH (by omega) (by omega),bs];unfold xN;rw[if_neg (by omega),bs,Gb a3]
  by_cases hh:(x*(i:Int))%p=1
  ·grind
  ·rw[zBw hh,zK,zK,zH (by omega) (by omega),bs,cs]
 have pf:∀q,q+1≤k→zC (zL5 x p) ((k-q:Nat):Int)=jq (.inr (k:Int)):=by
  intro q
  induction q with
  |zero=>
   intro _;rw[yP,show k-0=k from rfl,body k k1 k2,zOa k3,zJ]
  |succ q ih=>
   intro hq;have gf:(x*((k-(q+1):Nat):Int))%p≠1:=by grind
   rw[yP,body _ (by omega) (by omega),zBw gf,zK,show k-(q+1)+1=k-q from by omega]
   grind
 have:=pf (k-1) (by omega);rw[show k-(k-1)=1 from by omega,show((1:Nat):Int)=1 from rfl]at this
 grind[zSF]
section
variable {p:Int} (hp:Prime p) {n:Nat} (hn:n≤100000)
 include hp hn
theorem zXS{r s:List Int}(hr:Row p n r):sE p n r p s=r:=by
 have _:=hp;have _:=hn
 conv=>rhs;rw[tM hr.1]
 refine yV fun j hj=>?_
 have:=hr.2 j hj;rw[Ug];exact Jb this.1 (by omega)
def cl(p:Int)(n:Nat)(out:Mx)(pv:Nat→Nat)(v:List Int):Nat→List Int
 |0=>v
 |i+1=>sE p n (cl p n out pv v i) (p-at0 (cl p n out pv v i) (pv i)) (out.getD i [])
variable {out:Mx}{pv:Nat→Nat} (h:Red p n out pv) {v:List Int} (hv:Row p n v)
 include h hv
theorem zDU:∀i,Row p n (cl p n out pv v i):=by
 have _:=hn;have _:=h;intro i;cases i with
 |zero=>exact hv
 |succ i=>exact zCN hp
theorem zRA:∀i,i≤out.length→ ∀k,k<i→at0 (cl p n out pv v i) (pv k)=0:=by
 have _:=hn;have _:=hv;have h7:=hp.pos;intro i
 induction i with
 |zero=>simp
 |succ i ih=>
  intro hi k hk;have gE:=h.lt k (by omega);rw[cl,sE,yD gE];rcases Jf k i with g|g
  ·have h1:=ih (by omega) k g
   have h2:=h.off k i (by omega) (by omega) (by omega)
   simp_all
  ·have hki:k=i:=by omega
   subst hki;have h2:=h.one k (by omega);simp only[ent]at h2;rw[h2,Kf,show at0 (cl p n out pv v k) (pv k)+(p-at0 (cl p n out pv v k) (pv k))=p from by omega,U4]
theorem zOb:∀i,i≤out.length→ ∃cf:Nat→Int,∀j,j<n→at0 (cl p n out pv v i) j%p=(at0 v j+S out.length fun k=>cf k*ent out k j)%p:=by
 have _:=hp;have _:=h;have _:=hv;have _:=hn;intro i
 induction i with
 |zero=>intro _;exact⟨fun _=>0,fun j _=>by rw[vU (g:=fun _=>0) (fun i _=>by simp),zA8,Kd];rfl⟩
 |succ i ih=>
  intro hi;obtain⟨cf,fE⟩:=ih (by omega);refine⟨fun k=>cf k+(if k=i then p-at0 (cl p n out pv v i) (pv i)else 0),fun j hj=>?_⟩;have e1:(S out.length fun k=>(cf k+(if k=i then p-at0 (cl p n out pv v i) (pv i)else 0))*ent out k j)=(S out.length fun k=>cf k*ent out k j)+(p-at0 (cl p n out pv v i) (pv i))*ent out i j:=by rw[vU (g:=fun k=>cf k*ent out k j+(if k=i then p-at0 (cl p n out pv v i) (pv i)else 0)*ent out k j) (by grind),zKQ,zBO (f:=fun k=>(if k=i then p-at0 (cl p n out pv v i) (pv i)else 0)*ent out k j) (k:=i) (by omega) (by grind)];simp
  rw[e1,cl,sE,yD hj,K0,←Jbp,Jv,fE j hj,←Jv]
theorem zHc(hm:out.length≤100000):zSE p out v=jq (cl p n out pv v out.length):=by
 have h7:=hp.pos;unfold zSE;rw[uS (by rw[hv.1];omega),bs];have:=zU (body:=zL4 p out) (r:=cl p n out pv v out.length) (fun i=>(cl p n out pv v i,(i:Int))) out.length (fun i hi=>by
  have hr:=zDU hp hn h hv i;have ho:=h.row i hi;have gE:=h.lt i hi;have gn:=h.one i hi;have eW:=h.low i hi;simp only[ent]at gn eW;have he:=hr.2 (pv i) gE;unfold zL4;simp only
  rw[xH hi,zJ,yO [] hi,bs,zDo ho.1 (by omega) gE eW (by omega),bs,hr.1,xH gE,zJ,xV (by rw[hr.1];exact gE),bs]
  by_cases hz:at0 (cl p n out pv v i) (pv i)=0
  ·rw[zF7 hz,zK,zH (by omega) (by omega),bs,cs,cl,hz,Ud,zXS hp hn hr]
  ·rw[zE0 hz,zJ,bs,zH (by omega) (by omega),bs,bs,zCO hp hr ho (by omega) (by omega),bs,zH (by omega) (by omega),bs,cs]
   rfl) (by
  unfold zL4;simp)
 rw[show((0:Nat):Int)=0 from rfl]at this
 grind[cl]
end
end Go.Pl

namespace Go.Pl
open Go Go.Ab Go.Wk Go.Pc
section
variable {p:Int} (hp:Prime p) {n:Nat}{out:Mx}{pv:Nat→Nat} (h:Red p n out pv) {u:List Int}{k q:Nat} (hu:Row p n u) (hk:k<n) (u1:at0 u k=1) (ul:∀j,j<k→at0 u j=0) (up:∀i,i<out.length→at0 u (pv i)=0) (hq:q≤out.length) (q1:∀i,i<q→pv i<k) (q2:∀i,q≤i→i<out.length→k<pv i)
def oth(p:Int)(n:Nat)(out:Mx)(u:List Int)(k i:Nat):List Int:=sE p n (out.getD i []) (p-at0 (out.getD i []) k) u
def sF(p:Int)(n:Nat)(out:Mx)(u:List Int)(k q i:Nat):List Int:=if i<q then oth p n out u k i else if i=q then u else oth p n out u k (i-1)
def zUt(pv:Nat→Nat)(k q i:Nat):Nat:=if i<q then pv i else if i=q then k else pv (i-1)
 include hp h hu hk u1 ul up hq q1 q2
theorem zMv{i j:Nat}(hj:j<n):at0 (oth p n out u k i) j=(at0 (out.getD i []) j-at0 (out.getD i []) k*at0 u j)%p:=by have _:=hp;have _:=h;have _:=hu;have _:=hk;have _:=u1;have _:=ul;have _:=up;have _:=hq;have _:=q1;have _:=q2;rw[oth,sE,yD hj,show at0 (out.getD i []) j+(p-at0 (out.getD i []) k)*at0 u j=at0 (out.getD i []) j-at0 (out.getD i []) k*at0 u j+p*at0 u j from by grind,Ug]
theorem zE9{i j:Nat}(hi:i<out.length)(hj:j<n)(hz:at0 (out.getD i []) k=0∨at0 u j=0):at0 (oth p n out u k i) j=ent out i j:=by
 rw[zMv hp h hu hk u1 ul up hq q1 q2 hj];have:=(h.row i hi).2 j hj;have e:at0 (out.getD i []) k*at0 u j=0:=by grind
 rw[e,Ud];exact Jb this.1 (by omega)
theorem yAr{i:Nat}:at0 (oth p n out u k i) k=0:=by rw[zMv hp h hu hk u1 ul up hq q1 q2 hk,u1,Kf,Int.sub_self];rfl
theorem zUu{i j:Nat}(hi:i<out.length)(hj:j<pv i)(gf:pv i≠k):at0 (oth p n out u k i) j=0:=by
 have gE:=h.lt i hi;rcases Jf (pv i) k with g|g
 ·rw[zE9 hp h hu hk u1 ul up hq q1 q2 hi (by omega) (by grind)];exact h.low i hi j hj
 ·have:=h.low i hi k (by omega)
  rw[zE9 hp h hu hk u1 ul up hq q1 q2 hi (by omega) (.inl this)];exact h.low i hi j hj
theorem yAs{i:Nat}(hi:i<out.length):pv i≠k:=by have _:=hp;have _:=h;have _:=hu;have _:=hk;have _:=ul;have _:=hq;have _:=q1;have _:=q2;grind
theorem zI1{i:Nat}(hi:i<out.length+1):(i=q∧sF p n out u k q i=u∧zUt pv k q i=k)∨ ∃a,a<out.length∧(i<q∧a=i∨q<i∧i=a+1)∧sF p n out u k q i=oth p n out u k a∧zUt pv k q i=pv a:=by
 have _:=hp;have _:=h;have _:=hu;have _:=hk;have _:=u1;have _:=ul;have _:=up;have _:=q1;have _:=q2;unfold sF zUt
 grind
theorem zMw:Red p n (mkR (out.length+1) (sF p n out u k q)) (zUt pv k q):=by
 have nc:=fun i hi=>zI1 hp h hu hk u1 ul up hq q1 q2 (i:=i) hi
 have pn:=fun i hi=>yAs hp h hu hk u1 ul up hq q1 q2 (i:=i) hi
 refine⟨fun i hi=>?_,fun i hi=>?_,fun i hi=>?_,fun i hi j hj=>?_,fun i j hi hj gf=>?_,fun i j ea hj=>?_⟩<;>rw[sB]at*
 ·rw[zAt hi]
  rcases nc i hi with⟨_,e,_⟩|⟨a,_,_,e,_⟩<;>rw[e]
  ·exact hu
  ·exact zCN hp
 ·rcases nc i hi with⟨_,_,e⟩|⟨a,ha,_,_,e⟩<;>rw[e]
  ·exact hk
  ·exact h.lt a ha
 ·rw[zE8 hi]
  rcases nc i hi with⟨_,e1,e2⟩|⟨a,ha,_,e1,e2⟩<;>rw[e1,e2]
  ·exact u1
  ·rw[zE9 hp h hu hk u1 ul up hq q1 q2 ha (h.lt a ha) (.inr (up a ha))];exact h.one a ha
 ·rw[zE8 hi]
  rcases nc i hi with⟨_,e1,e2⟩|⟨a,ha,_,e1,e2⟩<;>rw[e2]at hj<;>rw[e1]
  ·grind
  ·exact zUu hp h hu hk u1 ul up hq q1 q2 ha hj (pn a ha)
 ·rw[zE8 hj]
  rcases nc i hi with⟨g1,_,e2⟩|⟨a,ha,ga,_,e2⟩<;>rw[e2]<;>rcases nc j hj with⟨g3,e3,_⟩|⟨b,hb,gb,e3,_⟩<;>rw[e3]
  ·omega
  ·exact yAr hp h hu hk u1 ul up hq q1 q2
  ·grind
  ·rw[zE9 hp h hu hk u1 ul up hq q1 q2 hb (h.lt a ha) (.inr (up a ha))]
   exact h.off a b ha hb (by omega)
 ·rcases nc i (by omega)with⟨g1,_,e2⟩|⟨a,ha,ga,_,e2⟩<;>rw[e2]<;>rcases nc j hj with⟨g3,_,e4⟩|⟨b,hb,gb,_,e4⟩<;>rw[e4]
  ·omega
  ·grind
  ·grind
  ·exact h.mono a b (by omega) hb
theorem zPf:(∀i,i<out.length+1→Sp p n (out++[u]) (sF p n out u k q i))∧(∀i,i<out.length→Sp p n (mkR (out.length+1) (sF p n out u k q)) (out.getD i []))∧Sp p n (mkR (out.length+1) (sF p n out u k q)) u:=by
 have cD:Sp p n (out++[u]) u:=by
  have:=jZ (p:=p) (n:=n) (R:=out++[u]) (i:=out.length) (by simp)
  grind
 have hol:∀i,i<out.length→Sp p n (out++[u]) (out.getD i []):=fun i hi=>by
  have:=jZ (p:=p) (n:=n) (R:=out++[u]) (i:=i) (by simp;omega)
  grind
 have hoth:∀i,i<out.length→Sp p n (out++[u]) (oth p n out u k i):=fun i hi=>
  zB3 (k:=p-at0 (out.getD i []) k) (hol i hi) cD (by grind[oth,sE,yD,K0])
 have am:Sp p n (mkR (out.length+1) (sF p n out u k q)) u:=by have:=zCg (p:=p) (n:=n) (m:=out.length+1) (F:=sF p n out u k q) (i:=q) (by omega);rw[show sF p n out u k q q=u from by unfold sF;simp]at this;exact this
 refine⟨fun i hi=>?_,fun i hi=>?_,am⟩
 ·rcases zI1 hp h hu hk u1 ul up hq q1 q2 hi with⟨_,e,_⟩|⟨a,ha,_,e,_⟩<;>rw[e]
  all_goals grind
 ·have er:∃b,b<out.length+1∧sF p n out u k q b=oth p n out u k i:=by
   rcases Jf i q with g|g
   ·exact⟨i,by omega,by unfold sF;grind⟩
   ·exact⟨i+1,by omega,by unfold sF;grind⟩
  obtain⟨b,hb,e⟩:=er;have h1:=zCg (p:=p) (n:=n) (m:=out.length+1) (F:=sF p n out u k q) hb;rw[e]at h1;refine zB3 (k:=at0 (out.getD i []) k) h1 am fun j hj=>?_
  rw[zMv hp h hu hk u1 ul up hq q1 q2 hj,Jv,K0,←Jv,show at0 (out.getD i []) j-at0 (out.getD i []) k*at0 u j+at0 (out.getD i []) k*at0 u j=at0 (out.getD i []) j from by omega]
theorem zKY(hn:n≤100000)(hm:out.length≤100000){x:Int}:
  ((zC (zHH p (out,x) (k:Int) u) ([],jt,0)).bind fun r32=>cond (!r32.2) ((yC r32.1 [u]).bind fun v33=>jq v33) (jq r32.1))=jq (mkR (out.length+1) (sF p n out u k q)):=by
 have _:=u1;have _:=ul;have _:=up;have h7:=hp.pos;have ho:∀i,i<out.length→f_V p (out.getD i []) (p-at0 (out.getD i []) k) u=jq (oth p n out u k i)∧ixO (out.getD i []) (k:Int)=jq (at0 (out.getD i []) k)∧0≤at0 (out.getD i []) k∧at0 (out.getD i []) k≤p-1∧f_A (out.getD i [])=jq (pv i:Int):=fun i hi=>by have hr:=h.row i hi;have fP:=hr.2 k hk;have gn:=h.one i hi;have eW:=h.low i hi;simp only[ent]at gn eW;exact⟨by rw[zCO hp hr hu (by omega) (by omega)];rfl,xV (by rw[hr.1];exact hk),fP.1,fP.2,zDo hr.1 (by omega) (h.lt i hi) eW (by omega)⟩
 have hsn:∀{m:Nat}{F:Nat→List Int},mkR m F++[F m]=mkR (m+1) F:=by grind[mkR,L9]
 have:=zU (body:=zHH p (out,x) (k:Int) u) (r:=(if out.length≤q then(mkR out.length (sF p n out u k q),jt)else(mkR (out.length+1) (sF p n out u k q),js)))
  (fun j=>if j≤q then(mkR j (sF p n out u k q),jt,(j:Int))else(mkR (j+1) (sF p n out u k q),js,(j:Int))) out.length (fun j hj=>by
   obtain⟨a1,a2,a3,a4,a5⟩:=ho j hj;have uv:rng (p-at0 (out.getD j []) k)=jq (p-at0 (out.getD j []) k):=by grind[zH]
   rcases H4 j q with g|g|g
   ·have hpj:=q1 j g
    rw[if_pos (by omega),if_pos (by omega)];unfold zHH;simp only
    rw[xH hj,zJ,K2,zJ,yO [] hj];simp only[bs,a5];rw[ju (by omega),zK,a2];simp only[bs,uv,a1];rw[zT (by rw[sB];simp;omega),bs,zH (by omega) (by omega),bs,cs];have:sF p n out u k q j=oth p n out u k j:=by unfold sF;grind
    grind
   ·subst g
    have hpj:=q2 j (J7 _) hj;rw[if_pos (by omega),if_neg (by omega)];unfold zHH;simp only
    rw[xH hj,zJ,K2,zJ,yO [] hj];simp only[bs,a5];rw[jw (by omega),zJ,zT (by rw[sB];simp;omega),a2];simp only[bs,uv,a1];have e1:sF p n out u k j j=u:=by unfold sF;simp
    have e2:sF p n out u k j (j+1)=oth p n out u k j:=by unfold sF;grind
    have e3:mkR j (sF p n out u k j)++[u]=mkR (j+1) (sF p n out u k j):=by grind
    rw[e3,zT (by rw[sB];simp;omega),bs,zH (by omega) (by omega),bs,cs,←e2,hsn]
   ·rw[if_neg (by omega),if_neg (by omega)]
    unfold zHH;simp only
    rw[xH hj,zJ,Jo,zK,yO [] hj];simp only[bs,a2,uv,a1];have e2:sF p n out u k q (j+1)=oth p n out u k j:=by unfold sF;rw[if_neg (by omega),if_neg (by omega)];rfl
    rw[zT (by rw[sB];simp;omega),bs,zH (by omega) (by omega),bs,cs,←e2,hsn]) (by
   by_cases g:out.length≤q
   ·rw[if_pos g,if_pos g]
    unfold zHH;simp
   ·rw[if_neg g,if_neg g]
    unfold zHH;simp)
 rw[if_pos (Jw _),show((0:Nat):Int)=0 from rfl,show mkR 0 (sF p n out u k q)=[]from rfl]at this;rw[this,bs]
 by_cases g:out.length≤q
 ·have e1:sF p n out u k q out.length=u:=by unfold sF;grind
  rw[if_pos g];simp only
  rw[K2,zJ,zT (by rw[sB];simp;omega),bs]
  grind
 grind
end
end Go.Pl

namespace Go.Pl
open Go Go.Ab Go.Wk Go.Pc
theorem zMx{p:Int}{n:Nat}{R out:Mx}{cf:Nat→Int}(ho:∀i,i<out.length→Sp p n R (out.getD i [])){u:List Int}(hu:∀j,j<n→at0 u j%p=(S out.length fun k=>cf k*ent out k j)%p):Sp p n R u:=
 zA3 ho ⟨cf,by grind⟩
theorem Red.len_le{p:Int}{n:Nat}{R:Mx}{pv:Nat→Nat}(h:Red p n R pv):R.length≤n:=by
 have key:∀i,i<R.length→i≤pv i:=by
  intro i
  induction i with
  |zero=>simp
  |succ i ih=>
   intro hi;have h1:=ih (by omega);have h2:=h.mono i (i+1) (by omega) hi;omega
 rcases Jbn R.length with g|g
 ·omega
 ·have h1:=key (R.length-1) (by omega)
  have h2:=h.lt (R.length-1) (by omega);omega
theorem zDp{xs:Mx}{v:List Int}{i:Nat}(h:i<xs.length):(xs++[v]).getD i []=xs.getD i []:=by grind
theorem zDq{xs:Mx}{v:List Int}:(xs++[v]).getD xs.length []=v:=by simp
section
variable {p:Int} (hp:Prime p) {n:Nat} (hn:n≤100000)
 include hp hn
theorem zMy{w:List Int}(hw:Row p n w){r:Int}(h0:0≤r)(h1:r≤p-1):zVf p r w=jq (mkv n fun j=>(at0 w j*r)%p):=by
 have h7:=hp.pos;unfold zVf;rw[hw.1,xJ (by omega),bs,zCO hp (zR5 (by omega)) hw (by omega) (by omega),bs]
 congr 1
 refine yV fun j hj=>?_
 grind
variable {rows:Mx} (hm:rows.length≤600000) (hr:∀i,i<rows.length→Row p n (rows.getD i []))
 include hm hr
theorem zEA:∃R pv,f_q p rows=jq R∧(Red p n R pv∧R.length≤rows.length)∧jV p n R rows:=by
 have h7:=hp.pos;unfold f_q;have main:=tU (body:=zPI p rows) (s:=([],0)) (Q:=fun R=> ∃pv,(Red p n R pv∧R.length≤rows.length)∧jV p n R rows)
  (fun i s=> ∃(out:Mx)(pv:Nat→Nat),s=(out,(i:Int))∧Red p n out pv∧jV p n out (rows.take i)∧out.length≤i∧i≤rows.length) rows.length (fun i s hi hI=>?_) (fun s hI=>?_) ⟨[],fun _=>0,rfl,Red.empty,by rw[Kv];exact jV.refl,Jw _,Jw _⟩
 ·obtain⟨R,h1,pv,h2,h3⟩:=main
  rw[h1,bs];exact⟨R,pv,rfl,h2,h3⟩
 ·obtain⟨out,pv,rfl,h,hs,hl,_⟩:=hI
  have hon:out.length≤n:=h.len_le;left;have hv:=hr i hi;have hw:=zDU hp hn h hv out.length;have gK:=zHc hp hn h hv (by omega);have hpz:=zRA hp hn h hv out.length (J7 _);obtain⟨cf,fE⟩:=zOb hp hn h hv out.length (J7 _);obtain⟨k,k1,k2,k3,k4⟩:=zI0 hw.1 (by omega);have fX:rows.take (i+1)=rows.take i++[rows.getD i []]:=by rw[Ku hi,J2,J4 hi];rfl
  have bR:(rows.take i).length=i:=by rw[Ge];omega
  have eH:∀u,Sp p n (rows.take i) u→Sp p n (rows.take (i+1)) u:=fun u hu=>zA3 (fun a ha=>by have:=jZ (p:=p) (n:=n) (R:=rows.take (i+1)) (i:=a) (by rw[fX,J8];omega);rw[fX,zDp ha,←fX]at this;exact this) hu
  have pu:Sp p n (rows.take (i+1)) (rows.getD i []):=by
   have:=jZ (p:=p) (n:=n) (R:=rows.take (i+1)) (i:=i) (by rw[fX,J8,bR];simp);rw[fX]at this;have e:(rows.take i++[rows.getD i []]).getD i []=rows.getD i []:=by have:=zDq (xs:=rows.take i) (v:=rows.getD i []);rw[bR]at this;exact this
   rw[e,←fX]at this;exact this
  by_cases aN:k=n
  ·
   refine⟨(out,((i+1:Nat):Int)),?_,out,pv,rfl,h,⟨fun a ha=>eH _ (hs.1 a ha),fun a ha=>?_⟩,by omega,by omega⟩
   ·unfold zPI
    simp only
    rw[xH hi,zJ,yO [] hi];simp only[bs,gK,k2];rw[hw.1,zOa (by omega),zJ,zH (by omega) (by omega),bs,cs]
   ·rw[fX,J8,bR,Jd]at ha
    rw[fX];rcases Jf a i with g|g
    ·rw[zDp (by omega)];exact hs.2 a (by omega)
    ·have:a=i:=by omega
     subst this;have e:(rows.take a++[rows.getD a []]).getD a []=rows.getD a []:=by have:=zDq (xs:=rows.take a) (v:=rows.getD a []);rw[bR]at this;exact this
     rw[e];refine zMx (out:=out) (cf:=fun q=> -1*cf q) (fun a ha=>jZ ha) fun j hj=>?_
     have h1:=fE j hj;rw[k3 j (by omega)]at h1;rw[vU (g:=fun q=> -1*(cf q*ent out q j)) (fun q _=>by rw[H5]),zDT];have h2:(at0 (rows.getD a []) j+S out.length fun q=>cf q*ent out q j)%p=0:=by rw[←h1];rfl
     rw[show at0 (rows.getD a []) j=(at0 (rows.getD a []) j+S out.length fun q=>cf q*ent out q j)+ -1*(S out.length fun q=>cf q*ent out q j)from by omega,Jv,h2,Jz,K0]
  ·have hk:k<n:=by omega
   have hwk:=hw.2 k hk;have gf:=k4 hk;obtain⟨r,r1,r2,r3,r4⟩:=zKX hp (x:=at0 (cl p n out pv (rows.getD i []) out.length) k) (by omega) (by omega);have bS:=zMy hp hn hw r2 r3;have hu:Row p n (mkv n fun j=>(at0 (cl p n out pv (rows.getD i []) out.length) j*r)%p):=⟨yG _ _,fun j hj=>by have e1:=Kq (at0 (cl p n out pv (rows.getD i []) out.length) j*r) (show p≠0 by omega);have e2:=Kh (at0 (cl p n out pv (rows.getD i []) out.length) j*r) (show 0<p by omega);rw[yD hj];omega⟩
   have ua:∀j,j<n→at0 (mkv n fun j=>(at0 (cl p n out pv (rows.getD i []) out.length) j*r)%p) j=(at0 (cl p n out pv (rows.getD i []) out.length) j*r)%p:=fun j hj=>yD hj
   generalize mkv n (fun j=>(at0 (cl p n out pv (rows.getD i []) out.length) j*r)%p)=u at bS hu ua
   have u1:at0 u k=1:=by rw[ua k hk];exact r4
   have ul:∀j,j<k→at0 u j=0:=fun j hj=>by rw[ua j (by omega),k3 j hj];simp
   have up:∀a,a<out.length→at0 u (pv a)=0:=fun a ha=>by rw[ua _ (h.lt a ha),hpz a ha];simp
   obtain⟨q,⟨hq,iy⟩,eF⟩:=zCq (p:=fun q=>q≤out.length∧(q<out.length→k<pv q)) ⟨out.length,J7 _,fun g=>by omega⟩;have q1:∀a,a<q→pv a<k:=fun a ha=>by
    have h1:¬(k<pv a):=fun g=>eF a ha ⟨by omega,fun _=>g⟩
    have h2:pv a≠k:=fun e=>by have:=up a (by omega);rw[e,u1]at this;cases this
    omega
   have q2:∀a,q≤a→a<out.length→k<pv a:=fun a ha ha2=>by
    have h1:=iy (by omega);rcases Jf q a with g|g
    ·have:=h.mono q a g ha2;omega
    ·rw[show a=q from by omega];exact h1
   have eG:=zKY hp h hu hk u1 ul up hq q1 q2 hn (by omega) (x:=(i:Int));have uw:=zMw hp h hu hk u1 ul up hq q1 q2;obtain⟨s1,s2,s3⟩:=zPf hp h hu hk u1 ul up hq q1 q2;refine⟨(mkR (out.length+1) (sF p n out u k q),((i+1:Nat):Int)),?_,_,_,rfl,uw,⟨fun a ha=>?_,fun a ha=>?_⟩,by rw[sB];omega,by omega⟩
   ·unfold zPI
    simp only
    rw[xH hi,zJ,yO [] hi];simp only[bs,gK,k2];rw[hw.1,zBw (by omega),zK,xV (by rw[hw.1];exact hk)];simp only[bs,r1,bS];cases gV:zC (zHH p (out,(i:Int)) (k:Int) u) ([],jt,0)with
    |none=>rw[gV]at eG;cases eG
    |some r32=>
     rw[gV,bs]at eG;simp only[bs];obtain⟨a1,a2⟩:=r32;cases a2 with
     |true=>
      simp only[Jo,zK]at eG ⊢
      rw[zH (by omega) (by omega),bs,cs,Ls.inj eG]
     |false=>
      simp only[K2,zJ]at eG ⊢
      cases hap:yC a1 [u]with
      |none=>rw[hap]at eG;cases eG
      |some v33=>
       rw[hap,bs]at eG;simp only[bs];rw[zH (by omega) (by omega),bs,cs,Ls.inj eG]
   ·rw[sB]at ha
    rw[zAt ha];refine zA3 (fun b hb=>?_) (s1 a ha);rw[J8,Jd]at hb;rcases Jf b out.length with g|g
    ·rw[zDp g];exact eH _ (hs.1 b g)
    ·rw[show b=out.length from by omega,zDq]
     have dJ:Sp p n (rows.take (i+1)) (cl p n out pv (rows.getD i []) out.length):=by
      have tf:Sp p n (rows.take (i+1)) (mkv n fun j=>S out.length fun k=>cf k*ent out k j):=zMx (out:=out) (cf:=cf) (fun b hb=>eH _ (hs.1 b hb)) fun j hj=>by rw[yD hj]
      refine zB3 (k:=1) pu tf fun j hj=>?_
      rw[fE j hj,yD hj,Hj]
     refine zB3 (k:=r) (zE7 (u:=[]) fun j _=>by simp[at0]) dJ fun j hj=>?_
     rw[ua j hj,K0,show at0 ([]:List Int) j=0 from by simp[at0],Jz,Lp]
   ·rw[fX,J8,bR,Jd]at ha
    rw[fX];rcases Jf a i with g|g
    ·rw[zDp (by omega)]
     exact zA3 s2 (hs.2 a (by omega))
    ·have hai:a=i:=by omega
     subst hai;have e:(rows.take a++[rows.getD a []]).getD a []=rows.getD a []:=by have:=zDq (xs:=rows.take a) (v:=rows.getD a []);rw[bR]at this;exact this
     rw[e];have dJ:Sp p n (mkR (out.length+1) (sF p n out u k q)) (cl p n out pv (rows.getD a []) out.length):=by
      refine zB3 (k:=at0 (cl p n out pv (rows.getD a []) out.length) k) (zE7 (u:=[]) fun j _=>by simp[at0]) s3 fun j hj=>?_
      rw[ua j hj,show at0 ([]:List Int) j=0 from by simp[at0],Jz];rw[Jq,K0,←Jq,←H5,Lp (at0 (cl p n out pv (rows.getD a []) out.length) k),H5,Jq,r4,Kf,K0]
     have tf:Sp p n (mkR (out.length+1) (sF p n out u k q)) (mkv n fun j=>S out.length fun k=>cf k*ent out k j):=zMx (out:=out) (cf:=cf) s2 fun j hj=>by rw[yD hj]
     refine zB3 (k:=-1) dJ tf fun j hj=>?_
     rw[yD hj,Jv,fE j hj,←Jv]
     congr 1;omega
 ·obtain⟨out,pv,rfl,h,hs,hl,_⟩:=hI
  refine⟨out,?_,pv,⟨h,hl⟩,by rw[List.take_length]at hs;exact hs⟩;unfold zPI;simp only
  rw[wW,zK]
theorem zKZ:∃R pv,f_q p rows=jq R∧Red p n R pv∧jV p n R rows:=by grind[zEA]
theorem zDV{R:Mx}{pv:Nat→Nat}(h:Red p n R pv)(hs:jV p n R rows):R.length≤rows.length:=by have h7:=hp.pos;obtain⟨R',pv',_,h2,h3⟩:=zEA hp hn hm hr;rw[h.unique (by omega) h2.1 (hs.trans h3.symm)];exact h2.2
theorem zA4:∃R pv,f_q p rows=jq R∧f_d p rows=jq R∧Red p n R pv∧jV p n R rows:=by
 have h7:=hp.pos;obtain⟨R,pv,h1,h2,h3⟩:=zKZ hp hn hm hr;obtain⟨R',pv',g1,g2,g3⟩:=zKW hp hn hm hr;have e:=h2.unique (by omega) g2 (h3.trans g3.symm)
 grind
end
end Go.Pl

namespace Go.Pl
open Go Go.Ab Go.Wk Go.Pc
theorem qP{β:Type}{body:List β×Int→Option ((List β×Int)⊕List β)}(n:Nat)(F:Nat→β)(h:∀i acc,i<n→acc.length=i→body (acc,(i:Int))=jq (.inl (acc++[F i],((i+1:Nat):Int))))(he:∀acc,body (acc,(n:Int))=jq (.inr acc)):
  zC body ([],0)=jq ((Ju n).map F):=by
 have:=zU (body:=body) (r:=(Ju n).map F) (fun i=>((Ju i).map F,(i:Int))) n (by grind[L9]) (he _);exact this
def zX(D k:Nat):List Int:=mkv D fun j=>if j=k then 1 else 0
theorem xW{p:Int}{D k:Nat}(hp:2≤p):Row p D (zX D k):=⟨yG _ _,by grind[zX,yD]⟩
theorem zA9{D k:Nat}(hk:k<D)(hD:D≤1000000):zS4 (D:Int) (k:Int)=jq (zX D k):=by grind[zS4,xJ,xV,qO,zAs,zX]
end Go.Pl

namespace Go.Pl
open Go Go.Ab Go.Wk Go.Pc
abbrev gl{β:Type}(m:Nat)(F:Nat→β):List β:=(Ju m).map F
theorem yK{β:Type}{m:Nat}{F:Nat→β}:(gl m F).length=m:=by simp[gl]
theorem uD{β:Type}{m:Nat}{F:Nat→β}{i:Nat}(h:i<m):ixO (gl m F) (i:Int)=jq (F i):=by rw[uR (by grind)];simp[gl]
theorem vX{β:Type}{m:Nat}{F G:Nat→β}(h:∀i,i<m→F i=G i):gl m F=gl m G:=by grind[U7]
theorem zHd{β:Type}{m:Nat}{F:Nat→β}{i:Nat}{a:β}:(gl m F).set i a=gl m (fun k=>if k=i then a else F k):=by
 apply Kl
 grind
theorem vN{β:Type}{m:Nat}{F:Nat→β}:gl m F++[F m]=gl (m+1) F:=by simp[gl,L9]
def base(n i:Nat):Nat:=n+i*n-i*(i+1)/2
theorem zPg:∀n,n<7→ ∀i,i<n→base n (i+1)=base n i+(n-1-i):=by decide
theorem zJy:∀n,n<7→ ∀i,i<n→base n i+(n-1-i)≤base n n:=by decide
theorem zCQ:∀n,n<7→n≤base n n∧base n n≤21∧base n 0=n:=by decide
def exP(n D:Nat)(x:SPr)(T:Mx)(i:Nat):List Int:=if i<n then x.yB.getD i []++T.getD i []else J1 (n+D) 0
def exF(n:Nat)(x:SPr)(m:yS)(T:Mx)(i j:Nat):List Int:=if j<n-1-i then(x.zD.getD i []).getD j []++T.getD (base n i+j) []else J1 n 0++(m.yZ.getD i []).getD (j-(n-1-i)) []
def unC(N i:Nat):Mx:=gl (N-1-i) fun j=>zX N (i+1+j)
def exC(n D:Nat)(x:SPr)(m:yS)(T:Mx)(i:Nat):Mx:=if i<n then gl (n+D-1-i) (exF n x m T i)else unC (n+D) i
def ext(n D:Nat)(x:SPr)(m:yS)(T:Mx):SPr:=⟨x.zA++J1 D m.Prime,gl (n+D) (exP n D x T),gl (n+D) (exC n D x m T)⟩
structure yBK (n D:Nat) (x:SPr) (m:yS) (T:Mx):Prop where
 hn:n≤6
 o:x.zA.length=n
 p:x.yB.length=n
 c:x.zD.length=n
 cl:∀i,i<n→(x.zD.getD i []).length=n-1-i
 pl:∀i,(x.yB.getD i []).length≤6
 ce:∀i j,((x.zD.getD i []).getD j []).length≤6
 t:T.length=base n n
 tl:∀i,(T.getD i []).length≤30
 m:yBI n m D
end Go.Pl

namespace Go.Pl
open Go Go.Ab Go.Wk Go.Pc
theorem zJz{a b:List Int}(ha:a.length≤1000)(hb:b.length≤1000):f_z [a,b]=jq (a++b):=by grind[zFA]
theorem zI2{v:Int}{k:Nat}(hk:k≤1000):∀d c:Nat,c≤k→(c=0→k=0)→k-c≤d→zC zPH (J1 c v++J1 (k-c) 0,(c:Int))=jq (J1 k v):=by
 intro d
 induction d with
 |zero=>
  intro c h1 _ h3;obtain rfl:c=k:=by omega
  rw[yP];unfold zPH;simp
 |succ d ih=>
  intro c h1 h2 h3
  by_cases hc:c=k
  ·grind
  ·have hl:(J1 c v++J1 (k-c) (0:Int)).length=k:=by simp;omega
   have s1:zQ (J1 c v++J1 (k-c) (0:Int)) (c:Int) (k:Int)=jq (((J1 c v++J1 (k-c) (0:Int)).drop c).take (k-c)):=by
    unfold zQ
    simp_all
   have s2:zQ (J1 c v++J1 (k-c) (0:Int)) 0 (c:Int)=jq (J1 c v):=by
    unfold zQ
    simp_all
   have e1:(J1 c v).take (k-c)=J1 (min (k-c) c) v:=by simp
   have e2:uW (J1 c v++J1 (k-c) (0:Int)) c (J1 (min (k-c) c) v)=J1 (c+min c (k-c)) v++J1 (k-(c+min c (k-c))) 0:=by
    unfold uW;rw[Jao (by simp),Jl,Nat.min_comm (k-c) c,K3,Ja0,Jl,H9 (by rw[Jl];omega),Jy,L1]
    congr 2;omega
   have hb:zPH (J1 c v++J1 (k-c) 0,(c:Int))=jq (.inl (J1 (c+min c (k-c)) v++J1 (k-(c+min c (k-c))) 0,((c+min c (k-c):Nat):Int))):=by
    unfold zPH;simp only
    rw[hl,xH (by omega),zJ,s1,bs,s2,bs,Jl];simp only[J9];rw[e1,e2,←U9,zH (by omega) (by omega),bs]
   rw[yP,hb];exact ih (c+min c (k-c)) (by omega) (by omega) (by omega)
theorem zMz{v:Int}{k:Nat}(hk:k≤30):f_W [v] (k:Int)=jq (J1 k v):=by
 have key:∀k:Nat,k<31→zS5 1 (IntKind.wrap .u64 (k:Int))=jq (0,(k:Int))∧yH (IntKind.wrap .i64 (k:Int))=jq k:=by decide+kernel
 obtain⟨k1,k2⟩:=key k (by omega);unfold f_W;rw[ju (by omega),zK,yBJ k1,bs];simp only[k2,bs];rw[show decide ((0:Int)> 0)=jt from rfl,zK,ju (by omega),zK]
 by_cases h0:k=0
 ·subst h0
  have:=zI2 (v:=v) (k:=0) (by omega) 0 0 (by omega) (by omega) (by omega);rw[show uW (J1 0 (0:Int)) 0 (([v]:List Int).take ((J1 0 (0:Int)).length-0))=J1 0 v++J1 (0-0) 0 from rfl,show((min ([v]:List Int).length ((J1 0 (0:Int)).length-0):Nat):Int)=((0:Nat):Int)from rfl,this,bs]
 ·have:=zI2 (v:=v) (k:=k) (by omega) k 1 (by omega) (by omega) (by omega)
  have e1:uW (J1 k (0:Int)) 0 (([v]:List Int).take ((J1 k (0:Int)).length-0))=J1 1 v++J1 (k-1) 0:=by
   unfold uW
   grind
  grind
theorem zPh{O:List Int}{N:Nat}(hO:O.length=N)(hN:N≤100):f_Q O=jq ⟨O,gl N (fun _=>J1 N 0),gl N (unC N)⟩:=by
 have gR:∀i,i<N→zC (zPJ O) ([],((i+1:Nat):Int))=jq (unC N i):=fun i hi=>by
  have:=zU (body:=zPJ O) (r:=unC N i) (fun j=>(gl j fun j=>zX N (i+1+j),((i+1+j:Nat):Int))) (N-1-i) (fun j hj=>by
   unfold zPJ;simp only
   rw[hO,xH (by omega),zJ,zA9 (by omega) (by omega),bs,zT (by grind),bs,zH (by omega) (by omega),bs,cs,vN (F:=fun j=>zX N (i+1+j))];rfl) (by
   unfold zPJ;simp only
   rw[hO,show i+1+(N-1-i)=N from by omega,wW,zK,unC])
  exact this
 have:=zU (body:=zPK O) (r:=(gl N (fun _=>J1 N 0),gl N (unC N))) (fun i=>(gl i (fun _=>J1 N (0:Int)),gl i (unC N),((i:Nat):Int))) N (fun i hi=>by
  unfold zPK;simp only
  rw[hO,xH hi,zJ,xJ (by omega),bs,zT (by grind),bs,zH (by omega) (by omega),bs,cs,gR i hi,bs,zT (by rw[yK];simp;omega),bs,bs,vN (F:=unC N),vN (F:=fun _=>J1 N (0:Int))]) (by
  unfold zPK
  grind)
 unfold f_Q;rw[zCh (by omega),bs]
 grind
section
variable {n D:Nat}{x:SPr}{m:yS}{T:Mx} (h:yBK n D x m T)
 include h
def exG(n N:Nat)(x:SPr)(m:yS)(T:Mx)(i t q:Nat):List Int:=if q<t then exF n x m T i q else zX N (i+1+q)
def exE(n D:Nat)(x:SPr)(m:yS)(T:Mx)(i t k:Nat):Mx:=if k<i then exC n D x m T k else if k=i then gl (n+D-1-i) (exG n (n+D) x m T i t)else unC (n+D) k
theorem zM0{i t:Nat}:exE n D x m T i t i=gl (n+D-1-i) (exG n (n+D) x m T i t):=by have _:=h;rw[exE,if_neg (by omega),if_pos rfl]
theorem zOc{i t:Nat}:(gl (n+D) (exE n D x m T i t)).set i ((gl (n+D-1-i) (exG n (n+D) x m T i t)).set t (exF n x m T i t))=gl (n+D) (exE n D x m T i (t+1)):=by
 have _:=h;rw[zHd,zHd];refine vX fun k _=>?_
 by_cases hk:k=i
 ·subst hk
  rw[if_pos rfl,zM0 h];refine vX fun q _=>?_
  simp only[exG]
  grind
 ·rw[if_neg hk,exE,exE,if_neg hk,if_neg hk]
theorem zHe{i k:Nat}:exE n D x m T i 0 k=if k<i then exC n D x m T k else unC (n+D) k:=by
 have _:=h;rw[exE]
 by_cases h1:k<i
 ·grind
 ·rw[if_neg h1,if_neg h1]
  by_cases h2:k=i
  ·subst h2
   rw[if_pos rfl];rfl
  grind
theorem zRB{i:Nat}(hi:i<n):gl (n+D) (exE n D x m T i (n+D-1-i))=gl (n+D) (exE n D x m T (i+1) 0):=by
 refine vX fun k _=>?_
 rw[zHe h,exE]
 by_cases h1:k<i
 ·grind
 ·rw[if_neg h1]
  by_cases h2:k=i
  ·subst h2
   rw[if_pos rfl,if_pos (by omega),exC,if_pos hi];exact vX fun q hq=>by rw[exG,if_pos hq]
  grind
theorem yAt{i:Nat}(hi:i<n){C:List Mx}{w:Int}:zC (zNc T (C,w,(i:Int)) (x.zD.getD i [])) (gl (n+D) (exE n D x m T i 0),((base n i:Nat):Int),0)=jq (gl (n+D) (exE n D x m T i (n-1-i)),((base n (i+1):Nat):Int)):=by
 have h6:=h.hn;have h3:=h.m.d3;have hc:=h.cl i hi;have hb:=zJy n (by omega) i hi;have fa:=zCQ n (by omega);have:=zU (body:=zNc T (C,w,(i:Int)) (x.zD.getD i [])) (r:=(gl (n+D) (exE n D x m T i (n-1-i)),((base n (i+1):Nat):Int))) (fun j=>(gl (n+D) (exE n D x m T i j),((base n i+j:Nat):Int),((j:Nat):Int))) (n-1-i) (fun j hj=>by
  have a1:=h.ce i j;have a2:=h.tl (base n i+j);have e:exF n x m T i j=(x.zD.getD i []).getD j []++T.getD (base n i+j) []:=if_pos hj;unfold zNc;simp only
  rw[hc,xH hj,zJ,yO [] (by omega),bs,uD (by omega),bs,yO [] (by rw[h.t];omega),bs,zJz (by omega) (by omega),bs,zM0 h,uD (by omega),bs,zH (by omega) (by omega),bs,zH (by omega) (by omega),bs,cs,cs,←e,J9,J9,zOc h];rfl) (by
  unfold zNc;simp only
  rw[hc,wW,zK,zPg n (by omega) i hi])
 exact this
theorem yAu{i:Nat}(hi:i<n){C:List Mx}{w:Int}:zC (zNd x (C,w,(i:Int)) (m.yZ.getD i [])) (gl (n+D) (exE n D x m T i (n-1-i)),0)=jq (gl (n+D) (exE n D x m T (i+1) 0)):=by
 have h6:=h.hn;have h3:=h.m.d3;have iK:=h.m.mat i hi;have:=zU (body:=zNd x (C,w,(i:Int)) (m.yZ.getD i [])) (r:=gl (n+D) (exE n D x m T (i+1) 0)) (fun j=>(gl (n+D) (exE n D x m T i (n-1-i+j)),((j:Nat):Int))) D (fun j hj=>by
  have e:exF n x m T i (n-1-i+j)=J1 n 0++(m.yZ.getD i []).getD j []:=by rw[exF,if_neg (by omega),show n-1-i+j-(n-1-i)=j from by omega]
  have hr:=(iK.2 j hj).1;unfold zNd;simp only
  rw[iK.1,xH hj,zJ,yO [] (by grind),bs,uD (by omega),bs,h.o,zH (by omega) (by omega),bs,zH (by omega) (by omega),bs,zH (by omega) (by omega),bs,show(0:Int)=((0:Nat):Int)from rfl,zKS (by omega) (by omega) (by omega),bs,
   show(n:Int)-1-(i:Int)+(j:Int)=((n-1-i+j:Nat):Int)from by omega,zM0 h,uD (by omega),bs,zH (by omega) (by omega),bs,cs,Q9,Jk,←e,J9,J9,zOc h];rfl) (by
  unfold zNd;simp only
  rw[iK.1,wW,zK,show n-1-i+D=n+D-1-i from by omega,zRB h hi])
 exact this
theorem yAv:zC (zNe x m T) (gl (n+D) (unC (n+D)),((n:Nat):Int),0)=jq (gl (n+D) (exC n D x m T)):=by
 have h6:=h.hn;have h3:=h.m.d3;have fa:=zCQ n (by omega);have:=zU (body:=zNe x m T) (r:=gl (n+D) (exC n D x m T)) (fun i=>(gl (n+D) (exE n D x m T i 0),((base n i:Nat):Int),((i:Nat):Int))) n (fun i hi=>by
  unfold zNe;simp only
  rw[h.o,xH hi,zJ,yO [] (by rw[h.c];exact hi),bs,yAt h hi,bs,yO [] (by rw[h.m.len];exact hi),bs,yAu h hi,bs,zH (by omega) (by omega),bs,cs]) (by
  unfold zNe;simp only
  rw[h.o,wW,zK]
  congr 2
  refine vX fun k _=>?_
  rw[zHe h,exC]
  grind)
 have e:gl (n+D) (exE n D x m T 0 0)=gl (n+D) (unC (n+D)):=vX fun k _=>by rw[zHe h,if_neg (by omega)]
 grind
theorem yAw:zC (zNb x T) (gl (n+D) (fun _=>J1 (n+D) 0),0,0)=jq (gl (n+D) (exP n D x T),((n:Nat):Int)):=by
 have h6:=h.hn;have h3:=h.m.d3;have fa:=zCQ n (by omega);have:=zU (body:=zNb x T) (r:=(gl (n+D) (exP n D x T),((n:Nat):Int))) (fun i=>(gl (n+D) (fun k=>if k<i then exP n D x T k else J1 (n+D) 0),((i:Nat):Int),((i:Nat):Int))) n (fun i hi=>by
  have a1:=h.pl i;have a2:=h.tl i;have e:exP n D x T i=x.yB.getD i []++T.getD i []:=if_pos hi;unfold zNb;simp only
  rw[h.p,xH hi,zJ,yO [] (by rw[h.p];exact hi),bs,yO [] (by rw[h.t];omega),bs,zJz (by omega) (by omega),bs,uD (by omega),bs,zH (by omega) (by omega),bs,bs,cs,←e,J9,zHd]
  grind) (by
  unfold zNb;simp only
  rw[h.p,wW,zK]
  congr 3
  refine vX fun k _=>?_
  by_cases hk:k<n
  ·grind
  ·rw[if_neg hk,exP,if_neg hk])
 grind
theorem zUv{v:Int}:f_W [v] m.Dim=jq (J1 D v):=by rw[h.m.d];exact zMz (by have:=h.m.d3;omega)
theorem zRC:f_l x m T=jq (ext n D x m T):=by
 have h6:=h.hn;have h3:=h.m.d3;unfold f_l;rw[zCh (by rw[h.o];omega),bs,zUv h,bs,zT (by rw[h.o];simp;omega),bs,zPh (N:=n+D) (by rw[J8,h.o];simp) (by omega),bs];simp only
 rw[yAw h,bs,yAv h,bs];rfl
end
end Go.Pl

namespace Go.Pl
open Go Go.Ab Go.Wk Go.Pc
theorem zBd{x:SPr}{n:Nat}(ho:x.zA.length=n)(hn:n≤6):zNa x=jq ((base n n:Nat):Int):=by
 unfold zNa;rw[ho];have key:∀n:Nat,n<7→((rng ((n:Int)+1)).bind fun v1=>(rng ((n:Int)*v1)).bind fun v2=>(wF v2 2).bind fun v3=>jq v3)=jq ((base n n:Nat):Int):=by decide+kernel
 grind
end Go.Pl

namespace Go.Pl
open Go Go.Ab Go.Wk Go.Pc
end Go.Pl

namespace Go.Pl
open Go Go.Ab Go.Wk Go.Pc
theorem zPi{xs:Mx}(h:xs.length≤100000)(hl:∀i,i<xs.length→(xs.getD i []).length≤1000000):f_X xs=jq xs:=by
 unfold f_X;rw[qP (body:=zPL xs) xs.length (fun i=>xs.getD i []) (fun i acc hi ha=>by
  unfold zPL;simp only
  rw[xH hi,zJ,yO [] hi,bs,uS (hl i hi),bs,zT (by simp;omega),bs,zH (by omega) (by omega),bs,cs]) (fun acc=>by
  unfold zPL;simp),bs]
 congr 1
 exact(zR6 rfl).symm
end Go.Pl

namespace Go.Pl
open Go Go.Ab Go.Wk Go.Pc
end Go.Pl

namespace Go.Pl
open Go Go.Ab Go.Wk Go.Pc
theorem zM1{v:List Int}{k:Nat}(hl:v.length≤1000000)(hk:k<v.length)(h0:∀j,j<k→at0 v j=0)(h1:at0 v k≠0):zPN v=jq (k:Int):=by
 unfold zPN;have:=zU (body:=zFF v) (r:=.inr (k:Int)) (fun i=>(i:Int)) k (fun i hi=>by
  unfold zFF zPM;rw[xH (by omega),zJ,xV (by omega),bs,bs,h0 i hi,bne_self_eq_false,zK,zH (by omega) (by omega),bs,cs]) (by
  unfold zFF zPM;rw[xH hk,zJ,xV hk,bs,bs,zE0 h1,zJ])
 grind
section
variable {p:Int} (hp:Prime p) {n:Nat} (hn:n≤100000) {R:Mx}{pv:Nat→Nat} (h:Red p n R pv) {v:List Int} (hv:Row p n v)
 include hp hn h
theorem zCR(hm:R.length≤100000):f_D R=jq (gl R.length fun i=>(pv i:Int)):=by
 have h7:=hp.pos;unfold f_D;rw[qP (body:=zHI R) R.length (fun i=>(pv i:Int)) (fun i acc hi ha=>by
  have hr:=h.row i hi;have h1:=h.one i hi;unfold zHI;simp only
  rw[xH hi,zJ,yO [] hi,bs,zM1 (k:=pv i) (by rw[hr.1];omega) (by grind) (fun j hj=>h.low i hi j hj) (by grind),bs,zT (by simp;omega),bs,zH (by omega) (by omega),bs,cs]) (fun acc=>by
  unfold zHI;simp),bs]
 include hv
theorem zXT{i:Nat}(hi:i<R.length):sE p n (cl p n R pv v i) (0-at0 (cl p n R pv v i) (pv i)) (R.getD i [])=cl p n R pv v (i+1):=by
 have _:=hp;have _:=hn;have _:=h;have _:=hv;have _:=hi;rw[cl];refine yV fun j _=>?_
 generalize at0 (cl p n R pv v i) (pv i)=a
 generalize at0 (R.getD i []) j=b
 rw[Jav,Jav,Gf];have e:at0 (cl p n R pv v i) j+(p*b-a*b)=at0 (cl p n R pv v i) j+(0-a*b)+p*b:=by omega
 simp_all
theorem zHf{c:Int}(hm:R.length≤100000):zVh (zN.mk p c R) v=jq (cl p n R pv v R.length):=by
 have h7:=hp.pos;have:=zU (body:=zIF (zN.mk p c R) (gl R.length fun i=>(pv i:Int))) (r:=cl p n R pv v R.length) (fun i=>(cl p n R pv v i,(i:Int))) R.length (fun i hi=>by
  have hr:=zDU hp hn h hv i;have ha:=hr.2 (pv i) (h.lt i hi);unfold zIF;simp only
  rw[yK,xH hi,zJ,uD hi,bs,yO [] hi,bs,xV (by rw[hr.1];exact h.lt i hi),bs,zH (by omega) (by omega),bs,zFn hp hr (h.row i hi) (by omega) (by omega),bs,zH (by omega) (by omega),bs,cs,zXT hp hn h hv hi]) (by
  unfold zIF;simp)
 unfold zVh;rw[zCh (by rw[hv.1];omega),bs];simp only
 rw[zCR hp hn h hm,bs];have e:zC (zIF (zN.mk p c R) (gl R.length fun i=>(pv i:Int))) (v,0)=jq (cl p n R pv v R.length):=this;rw[e,bs]
end
end Go.Pl

namespace Go.Pl
open Go Go.Ab Go.Wk Go.Pc
section
variable {p:Int} (hp:1<p) {n:Nat}{R R':Mx}{pv pv':Nat→Nat} (h:Red p n R pv) (h':Red p n R' pv') (hs:∀i,i<R.length→Sp p n R' (R.getD i []))
 include hp h h' hs
theorem Red.lt_of{i i2 k k2:Nat}(hii:i<i2)(er:i2<R.length)(hk:k<R'.length)(e:pv' k=pv i)(e2:pv' k2=pv i2):k<k2:=by
 have _:=hp;have _:=hs;have h1:=h.mono i i2 hii er;refine Classical.byContradiction fun hn=>?_
 rcases Jf k2 k with g|g
 ·have:=h'.mono k2 k g hk;omega
 grind
theorem Red.low_in:∀i,i<R.length→ ∃k,k<R'.length∧pv' k=pv i∧i≤k:=by
 intro i
 induction i with
 |zero=>intro hi;obtain⟨k,hk,e⟩:=h.piv_in hp h' hs hi;grind
 |succ i ih=>
  intro hi;obtain⟨k,hk,e,bw⟩:=ih (by omega);obtain⟨k2,fP,e2⟩:=h.piv_in hp h' hs hi;have:=h.lt_of hp h' hs (by simp) hi hk e e2
  grind
theorem Red.le_of:R.length≤R'.length:=by
 rcases Jbn R.length with g|g
 ·omega
 ·obtain⟨k,hk,_,bw⟩:=h.low_in hp h' hs (R.length-1) (by omega)
  omega
end
end Go.Pl

namespace Go.Pl
open Go Go.Ab Go.Wk Go.Pc
end Go.Pl

namespace Go.Pl
open Go Go.Ab Go.Wk Go.Pc
theorem zJ0{u v:List Int}{j:Nat}:at0 (u++v) j=if j<u.length then at0 u j else at0 v (j-u.length):=by grind
theorem zHg{v:List Int}{c j:Nat}:at0 (v.drop c) j=at0 v (c+j):=by simp
theorem zRD{v:List Int}{c j:Nat}(h:j<c):at0 (v.take c) j=at0 v j:=by grind
theorem zJ1{f:Nat→Int}(t:Nat):∀d:Nat,S (t+d) f=S t f+S d (fun i=>f (t+i))
 |0=>by simp[S]
 |d+1=>by rw[←Lu];simp only[S];rw[zJ1 t d];omega
theorem zXU{f:Nat→Int}{t n:Nat}(ht:t≤n)(h:∀i,i<t→f i=0):S n f=S (n-t) (fun i=>f (t+i)):=by
 have e:n=t+(n-t):=by omega
 conv=>lhs;rw[e,zJ1,vU (g:=fun _=>0) h,zA8]
 omega
theorem vO{F:Nat→List Int}{m i:Nat}(h:i<m):(gl m F).getD i []=F i:=by grind
def ur(N i:Nat):List Int:=mkv N fun j=>if j=i then 1 else 0
def wd(N:Nat)(A:Mx):Mx:=gl N fun i=>A.getD i []++ur N i
def Gr(p:Int)(c N:Nat)(A:Mx)(u:List Int):Prop:=∀j,j<c→at0 u j%p=(S N fun k=>at0 u (c+k)*ent A k j)%p
section
variable {p:Int} (hp:1<p) {c N:Nat}{A:Mx} (hA:∀i,i<N→Row p c (A.getD i []))
 include hA
theorem zCS:(wd N A).length=N:=by have _:=hA;exact yK
theorem zJ2{i j:Nat}(hi:i<N)(hj:j<c):ent (wd N A) i j=ent A i j:=by rw[ent,wd,vO hi,zJ0,(hA i hi).1,if_pos hj]
theorem zBP{i l:Nat}(hi:i<N)(hl:l<N):ent (wd N A) i (c+l)=if l=i then 1 else 0:=by
 rw[ent,wd,vO hi,zJ0,(hA i hi).1,if_neg (by omega),Hx,ur,yD hl]
 include hp
theorem zRE{i:Nat}(hi:i<N):Row p (c+N) ((wd N A).getD i []):=by
 refine⟨by rw[wd,vO hi,J8,(hA i hi).1,ur,yG],fun j hj=>?_⟩;rcases Jf j c with g|g
 ·have:=(hA i hi).2 j g
  have e:=zJ2 hA hi g
  grind
 ·have e:=zBP hA (l:=j-c) hi (by omega)
  grind
theorem yAx{u:List Int}:Sp p (c+N) (wd N A) u↔Gr p c N A u:=by
 have _:=hp;constructor
 ·rintro⟨cf,fE⟩ j hj
  rw[zCS hA]at fE;rw[←fE j (by omega)];refine zCL fun k hk=>?_
  have h1:=fE (c+k) (by omega);rw[zBO (k:=k) hk (fun i hi gf=>by rw[zBP hA hi hk,if_neg (Ne.symm gf),L3]),zBP hA hk hk,if_pos rfl,Kf]at h1;rw[zJ2 hA hk hj,Jq,h1,←Jq]
 ·intro h
  refine⟨fun k=>at0 u (c+k),fun j hj=>?_⟩;rw[zCS hA];rcases Jf j c with g|g
  ·rw[h j g]
   refine congrArg (· %p) (vU fun k hk=>?_);rw[zJ2 hA hk g]
  ·obtain⟨l,rfl⟩:∃l,j=c+l:=⟨j-c,by omega⟩
   rw[zBO (k:=l) (by omega) (fun i hi gf=>by rw[zBP hA hi (by omega),if_neg (Ne.symm gf),L3]),zBP hA (by omega) (by omega),if_pos rfl,Kf]
variable {W:Mx}{pv:Nat→Nat} (hW:Red p (c+N) W pv) (hs:jV p (c+N) W (wd N A))
 include hW
theorem zXV:∃t,t≤W.length∧(∀i,i<t→pv i<c)∧ ∀i,t≤i→i<W.length→c≤pv i:=by
 have _:=hA;have _:=hp;obtain⟨t,ht,eF⟩:=zCq (p:=fun t=>W.length≤t∨c≤pv t) ⟨W.length,.inl (J7 _)⟩;have gE:∀i,i<t→i<W.length∧pv i<c:=fun i hi=>by have:=eF i hi;exact⟨Ja2 fun h=>this (.inl h),Ja2 fun h=>this (.inr h)⟩
 refine⟨t,Nat.le_of_not_lt fun h=>?_,fun i hi=>(gE i hi).2,fun i hi er=>?_⟩
 ·have:=(gE W.length h).1;omega
 ·rcases ht with h|h
  ·omega
  ·rcases Jf t i with g|g
   ·have:=hW.mono t i g er;omega
   ·rw[show i=t from by omega];exact h
def nul(c t:Nat)(W:Mx):Mx:=gl (W.length-t) fun i=>(W.getD (t+i) []).drop c
 omit hp hA hW in
theorem zEB{t i j:Nat}(hi:t+i<W.length):ent (nul c t W) i j=ent W (t+i) (c+j):=by rw[ent,nul,vO (by omega),zHg]
variable {t:Nat} (ht:t≤W.length) (h1:∀i,i<t→pv i<c) (h2:∀i,t≤i→i<W.length→c≤pv i)
 include ht h1 h2
theorem zUw:Red p N (nul c t W) (fun i=>pv (t+i)-c):=by
 have _:=hp;have _:=hA;have _:=h1;have _:=ht;have hl:(nul c t W).length=W.length-t:=yK;have iD:∀i,i<W.length-t→c≤pv (t+i):=by grind
 refine⟨fun i hi=>?_,fun i hi=>?_,fun i hi=>?_,fun i hi j hj=>?_,fun i k hi hk gf=>?_,fun i j ea hj=>?_⟩
 ·rw[hl]at hi
  have hr:=hW.row (t+i) (by omega);refine⟨by rw[nul,vO hi,Km,hr.1];omega,fun j hj=>?_⟩;have:=hr.2 (c+j) (by omega)
  grind[nul]
 ·rw[hl]at hi
  have:=hW.lt (t+i) (by omega)
  grind
 ·rw[hl]at hi
  rw[zEB (by omega),show c+(pv (t+i)-c)=pv (t+i)from by grind];exact hW.one _ (by omega)
 ·rw[hl]at hi
  rw[zEB (by omega)];exact hW.low _ (by omega) _ (by omega)
 ·rw[hl]at hi hk
  rw[zEB (by omega),show c+(pv (t+i)-c)=pv (t+i)from by grind];exact hW.off _ _ (by omega) (by omega) (by omega)
 ·rw[hl]at hj
  have:=hW.mono (t+i) (t+j) (by omega) (by omega)
  grind
 include hs
theorem yAy{u:List Int}:Sp p (c+N) W u↔Gr p c N A u:=by have _:=hW;have _:=ht;have _:=h1;have _:=h2;exact hs.iff.trans (yAx hp hA)
theorem zXW{x:List Int}:Sp p N (nul c t W) x↔ ∀j,j<c→(S N fun k=>at0 x k*ent A k j)%p=0:=by
 have hl:(nul c t W).length=W.length-t:=yK;constructor
 ·rintro⟨cf,fE⟩ j hj
  rw[hl]at fE;have e1:(S N fun k=>at0 x k*ent A k j)%p=(S N fun k=>(S (W.length-t) fun i=>cf i*ent (nul c t W) i k)*ent A k j)%p:=by grind[zCL,Jq]
  have e2:(S N fun k=>(S (W.length-t) fun i=>cf i*ent (nul c t W) i k)*ent A k j)=S (W.length-t) fun i=>cf i*S N fun k=>ent W (t+i) (c+k)*ent A k j:=by
   rw[vU (g:=fun k=>S (W.length-t) fun i=>cf i*(ent W (t+i) (c+k)*ent A k j)) (fun k hk=>by rw[←zNX];exact vU (by grind[zEB])),zJv]
   grind[zDT]
  have e3:(S (W.length-t) fun i=>cf i*S N fun k=>ent W (t+i) (c+k)*ent A k j)%p=(S (W.length-t) fun _=>0)%p:=zCL fun i hi=>by have h:=(yAy hp hA hW hs ht h1 h2).1 (jZ (p:=p) (n:=c+N) (R:=W) (i:=t+i) (by omega)) j hj;have hz:=hW.low (t+i) (by omega) j (by grind);simp only[ent]at hz;rw[hz]at h;rw[Jq,show(S N fun k=>ent W (t+i) (c+k)*ent A k j)%p=0 from h.symm,L3]
  rw[e1,e2,e3,zA8];rfl
 ·intro h0
  let u:List Int:=mkv (c+N) fun j=>if j<c then 0 else at0 x (j-c)
  have di:∀j,j<c→at0 u j=0:=fun j hj=>by rw[yD (by omega),if_pos hj]
  have uk:∀k,k<N→at0 u (c+k)=at0 x k:=fun k hk=>by rw[yD (by omega),if_neg (by omega),Hx]
  have hg:Gr p c N A u:=fun j hj=>by rw[di j hj,vU (g:=fun k=>at0 x k*ent A k j) (by grind),h0 j hj];rfl
  have hx:=hW.expand ((yAy hp hA hW hs ht h1 h2).2 hg);refine⟨fun i=>at0 u (pv (t+i)),fun j hj=>?_⟩;have h3:=hx (c+j) (by omega);rw[uk j hj,zXU ht (by grind)]at h3;rw[hl,h3];exact congrArg (· %p) (vU (by grind[zEB]))
end
end Go.Pl

namespace Go.Pl
open Go Go.Ab Go.Wk Go.Pc
def yBL(u:zN):Prop:=Prime u.Prime∧ ∃C:Nat,C≤8∧u.xU=(C:Int)∧u.Rows.length≤8∧ ∀i,i<u.Rows.length→Row u.Prime C (u.Rows.getD i [])
theorem zPj{u:zN}:IsB (zUZ u) (yBL u):=by
 unfold zUZ;rcases zCd u.Prime with⟨h1,h2⟩|⟨h1,h2⟩
 ·rw[h1,bs,Jo,zK]
  rcases sM u.xU 0 8 with⟨h3,h4⟩|⟨h3,h4⟩
  ·obtain⟨C,hC⟩:∃C:Nat,u.xU=(C:Int):=⟨u.xU.toNat,by omega⟩
   rw[h3,bs,Jo,zK]
   by_cases hl:u.Rows.length≤8
   ·rw[ju (by omega),zK]
    refine(zFi (body:=zLy u) u.Rows.length (fun i=>Row u.Prime C (u.Rows.getD i [])) rfl (fun i hi _=>?_) ?_).iff ⟨fun g=>⟨h2,C,by omega,hC,hl,g⟩,fun⟨_,C',_,e,_,g⟩=>by grind⟩
    ·refine zDl (zKR h2 (D:=C) (by omega)) (by omega) ?_
     unfold zLy;rw[xH hi,zJ,yO [] hi,bs,hC]
    ·unfold zLy
     simp
   ·rw[jw (by omega),zJ]
    exact .inr ⟨rfl,fun⟨_,_,_,_,g,_⟩=>hl g⟩
  ·rw[h3,bs,K2,zJ]
   exact .inr ⟨rfl,fun⟨_,C,g1,g2,_⟩=>h4 (by omega)⟩
 ·rw[h1,bs,K2,zJ]
  exact .inr ⟨rfl,fun g=>h2 g.1⟩
theorem zJ3{v:List Int}(hl:v.length≤1000000):IsB (zPE v) (∀i,i<v.length→at0 v i=0):=by
 refine zFi v.length (fun i=>at0 v i=0) rfl (fun i hi _=>?_) ?_
 ·refine zDl (o:=jq (at0 v i==0)) (IsB.of_bool (by simp)) (by omega) ?_
  unfold zID;rw[xH hi,zJ,xV hi,bs,bs];rfl
 ·unfold zID
  simp
end Go.Pl

namespace Go.Pl
open Go Go.Ab Go.Wk Go.Pc
end Go.Pl

namespace Go.Pl
open Go Go.Ab Go.Wk Go.Pc
end Go.Pl

namespace Go.Pl
open Go Go.Ab Go.Wk Go.Pc
structure Nul (p:Int) (c N:Nat) (A W:Mx) (pv:Nat→Nat) (t:Nat):Prop where
 row:∀i,i<N→Row p c (A.getD i [])
 len:A.length=N
 red:Red p (c+N) W pv
 sp:jV p (c+N) W (wd N A)
 le:t≤W.length
 lo:∀i,i<t→pv i<c
 hi:∀i,t≤i→i<W.length→c≤pv i
section
variable {p:Int} (hp:Prime p) {c N:Nat} (eQ:c+N≤100000) {A W:Mx}{pv:Nat→Nat}{t:Nat}
 include hp eQ
theorem Nul.get(hr:∀i,i<N→Row p c (A.getD i []))(hl:A.length=N):∃W pv t,Nul p c N A W pv t∧f_q p (wd N A)=jq W∧f_d p (wd N A)=jq W:=by have h7:=hp.pos;obtain⟨W,pv,r1,r2,r3,r4⟩:=zA4 hp (n:=c+N) eQ (rows:=wd N A) (by rw[zCS hr];omega) (fun i hi=>zRE (by omega) hr (by rwa [zCS hr]at hi));obtain⟨t,t1,t2,t3⟩:=zXV (by omega) hr r3;exact⟨W,pv,t,⟨hr,hl,r3,r4,t1,t2,t3⟩,r1,r2⟩
variable (h:Nul p c N A W pv t)
 include h
theorem Nul.nred:Red p N (nul c t W) (fun i=>pv (t+i)-c):=by have _:=eQ;have h7:=hp.pos;exact zUw (by omega) h.row h.red h.le h.lo h.hi
theorem Nul.nsp{x:List Int}:Sp p N (nul c t W) x↔ ∀j,j<c→(S N fun k=>at0 x k*ent A k j)%p=0:=by have _:=eQ;have h7:=hp.pos;exact zXW (by omega) h.row h.red h.sp h.le h.lo h.hi
theorem Nul.full:W.length=N:=by
 have h7:=hp.pos;have g1:W.length≤(wd N A).length:=zDV hp (n:=c+N) eQ (by rw[zCS h.row];omega) (fun i hi=>zRE (by omega) h.row (by rwa [zCS h.row]at hi)) h.red h.sp;rw[zCS h.row]at g1;have hl:(gl W.length fun i=>(W.getD i []).drop c).length=W.length:=yK;have hR:∀i,i<W.length→Row p N ((gl W.length fun i=>(W.getD i []).drop c).getD i []):=fun i hi=>by have hr:=h.red.row i hi;rw[vO hi];refine⟨by rw[Km,hr.1];omega,fun j hj=>?_⟩;rw[zHg];exact hr.2 (c+j) (by omega)
 obtain⟨R3,pv3,_,_,g3,g4⟩:=zA4 hp (n:=N) (by omega) (rows:=gl W.length fun i=>(W.getD i []).drop c) (by omega) (by grind);have g5:=zDV hp (n:=N) (by omega) (by omega) (by grind) g3 g4;have cD:(gl N (ur N)).length=N:=yK;have pj:∀i j,i<N→j<N→ent (gl N (ur N)) i j=if j=i then 1 else 0:=fun i j hi hj=>by rw[ent,vO hi,ur,yD hj]
 have ei:Red p N (gl N (ur N)) (fun i=>i):=by
  refine⟨fun i hi=>?_,fun i hi=>by omega,fun i hi=>?_,fun i hi j hj=>?_,by grind,fun i j ea hj=>ea⟩
  ·rw[cD]at hi
   rw[vO hi];refine⟨yG _ _,fun j hj=>?_⟩
   grind
  all_goals grind
 have g6:=ei.le_of (by omega) g3 (fun i hi=>by rw[cD]at hi;refine g4.iff.2 ?_;obtain⟨cf,fE⟩:=h.sp.2 i (by rw[zCS h.row];exact hi);refine⟨cf,fun j hj=>?_⟩;have h1:=fE (c+j) (by omega);have h2:=zBP h.row hi hj;simp only[ent]at h2;rw[h2]at h1;have h3:=pj i j hi hj;simp only[ent]at h3;rw[h3,hl,←h1];exact congrArg (· %p) (vU (by grind)))
 omega
 omit h in
theorem zM2{N:Nat}(hN:N≤100000):zYv (N:Int)=jq (gl N (ur N)):=by
  have _:=hp;have _:=eQ;unfold zYv;rw[qP (body:=zO2 (N:Int)) N (ur N) (fun i acc hi ha=>by
    unfold zO2;simp only
    rw[xH hi,zJ,xJ (by omega),bs,tL,K1,if_pos hi,bs,J9,qO,zAs,zT (by simp;omega),bs,zH (by omega) (by omega),bs,cs];rfl) (fun acc=>by
    unfold zO2;simp),bs]
 omit h in
theorem zPk(hr:∀i,i<N→Row p c (A.getD i []))(hl:A.length=N):zY0 p A=f_q p (wd N A):=by
  unfold zY0;rw[hl,zM2 hp eQ (by omega),bs,qP (body:=zO6 A (gl N (ur N))) N (fun i=>A.getD i []++ur N i) (fun i acc hi ha=>by
    unfold zO6;simp only
    rw[hl,xH hi,zJ,yO [] (by omega),bs,uS (by rw[(hr i hi).1];omega),bs,uD hi,bs,zT (by rw[(hr i hi).1,ur,yG];omega),bs,zT (by simp;omega),bs,zH (by omega) (by omega),bs,cs]) (fun acc=>by
    unfold zO6
    grind),bs]
  grind[wd]
theorem zPl:zC (zL6 (c:Int) W) ([],0)=jq (nul c t W):=by
 have hf:=h.full hp eQ;have eY:=h.le;have:=zU (body:=zL6 (c:Int) W) (r:=nul c t W) (fun i=>(gl (i-t) (fun k=>(W.getD (t+k) []).drop c),(i:Int))) W.length (fun i hi=>by
  have hr:=h.red.row i hi;have h1:=h.red.one i hi;have gE:=h.red.lt i hi;have pg:=zDo (n:=c+N) hr.1 (by omega) gE (h.red.low i hi) (by grind);unfold zL6;simp only
  rw[xH hi,zJ,yO [] hi,bs,pg,bs];rcases Jf i t with g|g
  ·have:=h.lo i g
   rw[ju (by omega),zK,zH (by omega) (by omega),bs,cs,show i-t=0 from by omega,show i+1-t=0 from by omega]
  ·have:=h.hi i g hi
   have e:zQ (W.getD i []) (c:Int) ((W.getD i []).length:Int)=jq ((W.getD i []).drop c):=by unfold zQ;rw[if_pos (by grind),J9,J9,Jg (by rw[Km];omega)]
   rw[jw (by omega),zJ,bs,e,bs,uS (by rw[Km,hr.1];omega),bs,zT (by rw[yK];simp;omega),bs,zH (by omega) (by omega),bs,cs,show i+1-t=(i-t)+1 from by omega,←vN,show t+(i-t)=i from by omega]) (by
  unfold zL6;simp only
  rw[wW,zK];rfl)
 grind
end
end Go.Pl

namespace Go.Pl
open Go Go.Ab Go.Wk Go.Pc
end Go.Pl

namespace Go.Pl
open Go Go.Ab Go.Wk Go.Pc
end Go.Pl

namespace Go.Pl
open Go Go.Ab Go.Wk Go.Pc
theorem zEC{α:Type}{f:α→α}{a:α}(h:f a=a):∀k,iter k f a=a
 |0=>rfl
 |k+1=>by show iter k f (f a)=a;rw[h];exact zEC h k
theorem zFo{x:SPr}(h:Pres x):∀(d k:Nat),k+d=x.zA.length→uZ (suf x k)→ ∀m,d+1≤m→ ∀v,V (suf x k) v→ ∃w,V (suf x k) w∧mul (suf x k) v w=zeros (suf x k).length∧zMW m x k (fv k v)=jq (fv k w)
 |0,k,hk,_,m,hm,v,hv=>by
  have h6:=h.os.1;obtain⟨m,rfl⟩:∃m',m=m'+1:=⟨m-1,by omega⟩;rw[sT (by omega)]at hv ⊢
  obtain rfl:v=[]:=hv;refine⟨[],rfl,rfl,?_⟩;show b_i _ x k _=_;unfold b_i;rw[jw (by omega),zJ,xJ (by omega),bs]
  simp_all[zeros]
 |d+1,k,mq,hc,m,hm,v,hv=>by
  have h6:=h.os.1;obtain⟨m,rfl⟩:∃m',m=m'+1:=⟨m-1,by omega⟩;have hk:k<x.zA.length:=by omega
  have ff:=(h.os.2 k hk).pos;have hcQ:uZ (suf x (k+1)):=zE3 hc 1;have ih:=zFo h d (k+1) (by omega) hcQ m (by omega);have G:=zF9 h (by omega) hc;have GQ:=zF9 h (by omega) hcQ;have okP:=h.okAt (k:=k) (by omega);have okQ:=h.okAt (k:=k+1) (by omega);have mG:=zGX h (by omega) hv;have ct:=wK x (k+1);obtain⟨w1,w2⟩:=yAp h hk;rw[yY hk]at hv G okP;obtain⟨a,r,rfl⟩:∃a r,v=a::r:=by
   cases v with
   |nil=>exact hv.elim
   |cons a r=>simp
  have fg:(lvl x k).o=at0 x.zA k:=rfl;obtain⟨⟨a0,a1⟩,hr⟩:=hv;rw[fg]at a1;obtain⟨r',dn,hmr,pz⟩:=ih r hr;have hz:V (suf x (k+1)) (zeros (suf x (k+1)).length):=vT okQ;have hzc:zeros (lvl x k::suf x (k+1)).length=0::zeros (suf x (k+1)).length:=rfl;have tj:∀(c:Int)(u:Vec),0≤c→c<at0 x.zA k→V (suf x (k+1)) u→V (lvl x k::suf x (k+1)) (c::u):=fun c u h0 h1 hu=>⟨⟨h0,h1⟩,hu⟩
  have e2:mul (lvl x k::suf x (k+1)) (0::r) (0::r')=zeros (lvl x k::suf x (k+1)).length:=by
   rw[xG,fg,if_neg (by omega),hzc]
   grind[iter]
  show∃w,_∧_∧b_i (zMW m) x k (fv k (a::r))=jq (fv k w);unfold b_i;rw[ju (by omega),zK,uS (by omega),bs,zGU,bs,zH (by omega) (by omega),bs,cs,J9,zGT,zB2,show zeros (k+1)++r=fv (k+1) r from rfl,pz,bs,bs];rw[yY hk]
  by_cases ha:a=0
  ·subst ha
   rw[show((0:Int)==0)=js from rfl,zJ];exact⟨0::r',by grind,e2,by rw[fv,←zB2]⟩
  ·rw[show(a==0)=jt from by grind,zK,xJ (by omega),bs,xV hk,bs,bs,zH (by omega) (by omega),bs,tL,K1,if_pos hk,bs]
   have pG:(J1 x.zA.length (0:Int)).set k (at0 x.zA k-a)=zeros k++(at0 x.zA k-a)::zeros (suf x (k+1)).length:=by
    have e:J1 x.zA.length (0:Int)=zeros k++0::zeros (x.zA.length-(k+1)):=by simp only[zeros];rw[←Ks,K3];congr 1;omega
    grind[zGT]
   obtain⟨w',gY,hmw,hfw⟩:=ih (lvl x k).w w2;have hA:=tj a _ a0 a1 hz;have hR:=tj 0 r (by omega) (by omega) hr;have dB:=tj 0 r' (by omega) (by omega) dn;have hT:=tj (at0 x.zA k-a) _ (by omega) (by omega) hz;have hW:=tj 0 (lvl x k).w (by omega) (by omega) w2;have bH:=tj 0 w' (by omega) (by omega) gY;have gu:sig (suf x (k+1)) (lvl x k) (zeros (suf x (k+1)).length)=zeros (suf x (k+1)).length:=by grind[sig,zAT]
   have e1:mul (lvl x k::suf x (k+1)) (a::zeros (suf x (k+1)).length) (0::r)=a::r:=by rw[xG,fg,if_neg (by omega),show iter (0:Int).toNat (sig (suf x (k+1)) (lvl x k)) (zeros (suf x (k+1)).length)=zeros (suf x (k+1)).length from rfl,GQ.onel hr,Kd]
   have e3:mul (lvl x k::suf x (k+1)) (a::zeros (suf x (k+1)).length) ((at0 x.zA k-a)::zeros (suf x (k+1)).length)=0::(lvl x k).w:=by
    rw[xG,fg,if_pos (by omega),zEC gu,GQ.oner hz,GQ.oner w2]
    grind
   have e4:mul (lvl x k::suf x (k+1)) (0::(lvl x k).w) (0::w')=zeros (lvl x k::suf x (k+1)).length:=by
    rw[xG,fg,if_neg (by omega),hzc]
    grind[iter]
   have jl:=G.cl dB hT;have dc:=G.cl jl bH;have spA:=zJu h (k:=k) (by omega);rw[pG,show fv (k+1) r'=zeros k++0::r' from by rw[zB2],spA _ _ (by grind[yY]) (by grind[yY]),bs,bs,w1,bs,hfw,bs,show fv (k+1) w'=zeros k++0::w' from by rw[zB2],yY hk];have:=spA _ _ (by rw[yY hk];exact jl) (by rw[yY hk];exact bH);rw[yY hk]at this;rw[this,bs];refine⟨_,dc,?_,rfl⟩;rw[←e1,G.assoc hA hR dc,←G.assoc hR jl bH,←G.assoc hR dB hT,e2,G.onel hT,←G.assoc hA hT bH,e3,e4]
theorem zED{x:SPr}(h:Pres x)(hc:uZ (suf x 0)){v:Vec}(hv:V (suf x 0) v):∃w,V (suf x 0) w∧mul (suf x 0) v w=zeros (suf x 0).length∧zMX x v=jq w:=by obtain⟨w,h1,h2,_⟩:=zFo h x.zA.length 0 (by omega) hc (x.zA.length+1) (by omega) v hv;refine⟨w,h1,h2,?_⟩;unfold zMX f_i;rw[zCA (r:=w) (x.zA.length+1) fun m hm=>?_,bs];obtain⟨w',g1,g2,g3⟩:=zFo h x.zA.length 0 (by omega) hc m hm v hv;have G:=zF9 h (by omega) hc;have e:w=w':=G.cancel_l hv h1 g1 (by rw[h2,g2]);rw[e];exact g3
theorem zRF{p:Int}{D:Nat}{A:List Mx}:∀(v:Vec)(o:Nat)(B:Mx),o+v.length≤A.length→wM p D A (nw o v) B=img (PM p D) (A.drop o) v B
 | [],o,B,_=>by simp[nw,wM,img]
 |a::v,o,B,h=>by
  simp only[Jx]at h;have e:A.drop o=A.getD o []::A.drop (o+1):=by grind[Lv]
  rw[e];simp only[nw,img];rw[zPb,zMs,zRF v (o+1) _ (by omega)]
theorem zLa:∀(k o:Nat),nw o (zeros k)=[]
 |0,_=>rfl
 |k+1,o=>by rw[show zeros (k+1)=0::zeros k from rfl];simp only[nw];rw[zLa k];rfl
section
variable {x:SPr}{m:yS}{D:Nat} (h:Pres x) (hm:yAq x.zA.length m D) (hr:zUs x m D)
 include hm
 include h hr
theorem zOd:∀(d k:Nat),k+d=x.zA.length→Rel (PM m.Prime D) (idM D) (suf x k) (m.yZ.drop k)
 |0,k,hk=>by rw[sT (by omega),H9 (by rw[hm.len];omega)];exact rfl
 |d+1,k,mq=>by
  have h6:=h.os.1;have hk:k<x.zA.length:=by omega
  have gv:=hm.len;have e:m.yZ.drop k=m.yZ.getD k []::m.yZ.drop (k+1):=by simp_all
  obtain⟨t1,t2,t3⟩:=h.tl k hk;obtain⟨r1,r2⟩:=hr k hk;have tv:∀v,Exp x.zA v k→wM m.Prime D m.yZ (nw 0 v) (idM D)=img (PM m.Prime D) (m.yZ.drop (k+1)) (v.drop (k+1)) (idM D):=fun v hv=>by
   have hl:=hv.1.1
   conv=>lhs;rw[zBM hv hk]
   rw[zIv,zLa,Jy,yN,zRF _ _ _ (by grind),Jc]
  rw[yY hk,e];refine⟨?_,fun q c dd hc hd=>?_,zOd d (k+1) (by omega)⟩
  ·grind[pw,lvl,zMs]
  ·rw[Ky]at hc
   have hq:k+1+q<m.yZ.length:=by grind
   have dy:c=m.yZ.getD (k+1+q) []:=by grind
   have pS:dd=((x.zD.getD k []).getD q []).drop (k+1):=by grind[lvl]
   have:=r2 (k+1+q) (by omega) (by omega);rw[show k+1+q-(k+1)=q from by omega]at this;rw[dy,pS,this,tv _ (t3 q (by omega))]
end
end Go.Pl

namespace Go.Pl
open Go Go.Ab Go.Wk Go.Pc
theorem zEE{p:Int}{c N:Nat}(eQ:c+N≤100000){A:Mx}(hr:∀i,i<N→Row p c (A.getD i []))(hl:A.length=N):zVc A=jq (wd N A):=by
 unfold zVc;rw[qP (body:=zLz A) N (fun i=>A.getD i []++ur N i) (fun i acc hi ha=>by
  have h1:=(hr i hi).1;have e:uW (J1 (c+N) (0:Int)) 0 ((A.getD i []).take (((J1 (c+N) (0:Int)).length)-0))=A.getD i []++J1 N 0:=by unfold uW;rw[Jl,Jg (l:=A.getD i []) (by omega),Kv,Jy,h1,L1];simp
  have e2:ixO (A.getD i []++J1 N (0:Int)) ((c+i:Nat):Int)=jq 0:=by rw[tL,Je (by omega),h1,K1,if_pos (by omega)]
  unfold zLz;simp only
  rw[hl,xH hi,zJ,yO [] (by omega),bs,h1,←U9,zH (by omega) (by omega),bs,xJ (by omega),bs,←U9,zH (by omega) (by omega),bs,e,e2,bs,J9,G8 _ _ (by omega),h1,Hx,qO,zAs,zT (by simp;omega),bs,zH (by omega) (by omega),bs,cs];rfl) (fun acc=>by
  unfold zLz
  grind),bs]
 rfl
def trM(D:Nat)(A:Mx):Mx:=gl D fun j=>mkv D fun i=>ent A i j
theorem zUx{D:Nat}(hD:D≤3){p:Int}{A:Mx}(hA:Mat p D A){body:List (List Int)×Int→List Int×Int→Option ((List Int×Int)⊕List Int)}{st:List (List Int)×Int}{j:Nat}(hj:j<D)(hs:st.2=(j:Int))
  (hb:∀(acc:List Int)(i:Int),body st (acc,i)=cond (decide (i<(A.length:Int))) ((ixO A i).bind fun v1=>(ixO v1 st.2).bind fun v2=>(yC acc [v2]).bind fun v3=>(rng (i+1)).bind fun v4=>jq (.inl (v3,v4))) (jq (.inr acc))):zC (body st) ([],0)=jq (mkv D fun i=>ent A i j):=
 qP D (fun i=>ent A i j) (fun i acc hi ha=>by
  obtain⟨a1,a2,_,_⟩:=zXR hA hi hj;rw[hb,hA.1,xH hi,zJ,a1,bs,hs,a2,bs,zT (by simp;omega),bs,zH (by omega) (by omega),bs,cs]) (fun acc=>by
  rw[hb,hA.1,wW,zK])
theorem zFM{D:Nat}(hD:D≤3){p:Int}{A:Mx}(hA:Mat p D A):zVe (zN.mk p (D:Int) A)=jq (zN.mk p (D:Int) (trM D A)):=by
 unfold zVe;rw[qP (body:=zL3 (zN.mk p (D:Int) A)) D (fun j=>mkv D fun i=>ent A i j) (fun j acc hj ha=>by
  unfold zL3;simp only
  rw[xH hj,zJ,zUx hD hA (body:=zSB (zN.mk p (D:Int) A)) hj rfl (fun acc i=>rfl),bs,zT (by simp;omega),bs,zH (by omega) (by omega),bs,cs]) (fun acc=>by
  unfold zL3;simp),bs]
 simp only
 rw[hA.1];rfl
end Go.Pl

namespace Go.Pl
open Go Go.Ab Go.Wk Go.Pc
theorem zLb{p:Int}(hp:Prime p){n:Nat}(hn:n≤100000){R:Mx}{pv:Nat→Nat}(h:Red p n R pv):f_q p R=jq R∧f_d p R=jq R:=by
 have h7:=hp.pos;have hl:R.length≤n:=h.len_le;obtain⟨R2,pv2,r1,r2,r3,r4⟩:=zA4 hp hn (rows:=R) (by omega) h.row;have e:=r3.unique (by omega) h r4
 grind
section
variable {p:Int} (hp:Prime p) {c N:Nat} (eQ:c+N≤100000) {A W:Mx}{pv:Nat→Nat}{t:Nat}
 include hp eQ
theorem zLc(h:Nul p c N A W pv t):zC (zIG (c:Int) W) ([],0)=jq (nul c t W):=by
 have h7:=hp.pos;have hf:=h.full hp eQ;have eY:=h.le;have:=zU (body:=zIG (c:Int) W) (r:=nul c t W) (fun i=>(gl (i-t) (fun k=>(W.getD (t+k) []).drop c),(i:Int))) W.length (fun i hi=>by
  have hr:=h.red.row i hi;have h1:=h.red.one i hi;have e0:zQ (W.getD i []) 0 (c:Int)=jq ((W.getD i []).take c):=by unfold zQ;rw[if_pos ⟨by omega,by omega,by rw[hr.1];omega⟩,J9,show(0:Int).toNat=0 from rfl,H3,Nat.sub_zero]
  have py:((W.getD i []).take c).length=c:=by rw[Ge,hr.1];omega
  have hz:=zJ3 (v:=(W.getD i []).take c) (by omega);unfold zIG;simp only
  rw[xH hi,zJ,yO [] hi,bs,e0,bs];rcases Jf i t with g|g
  ·have gV:=h.lo i g
   rcases hz with⟨_,z⟩|⟨z,_⟩
   ·grind
   ·rw[z,bs,zK,zH (by omega) (by omega),bs,cs,show i-t=0 from by omega,show i+1-t=0 from by omega]
  ·have eb:=h.hi i g hi
   have e:zQ (W.getD i []) (c:Int) ((W.getD i []).length:Int)=jq ((W.getD i []).drop c):=by unfold zQ;rw[if_pos (by grind),J9,J9,Jg (by rw[Km];omega)]
   rcases hz with⟨z,_⟩|⟨_,z⟩
   ·rw[z,bs,zJ,e,bs,zT (by grind),bs,zH (by omega) (by omega),bs,cs,show i+1-t=(i-t)+1 from by omega,←vN,show t+(i-t)=i from by omega]
   ·refine absurd (fun j hj=>?_) z
    rw[py]at hj;rw[zRD hj];have:=h.red.low i hi j (by omega);omega) (by
  unfold zIG;simp only
  rw[wW,zK];rfl)
 grind
theorem zI3(hr:∀i,i<N→Row p c (A.getD i []))(hl:A.length=N):∃K pk,yAG p A (c:Int)=jq K∧zPO p A (c:Int)=jq K∧Red p N K pk∧ ∀x,Sp p N K x↔ ∀j,j<c→(S N fun k=>at0 x k*ent A k j)%p=0:=by
 obtain⟨W,pv,t,h1,h2,h3⟩:=Nul.get hp eQ hr hl;refine⟨nul c t W,_,?_,?_,h1.nred hp eQ,fun x=>h1.nsp hp eQ⟩
 ·grind[yAG,zPk,zPl]
 ·unfold zPO
  rw[zEE eQ hr hl,bs,h3,bs,zLc hp eQ h1,bs,(zLb hp (by omega) (h1.nred hp eQ)).2,bs]
end
end Go.Pl

namespace Go.Pl
open Go Go.Ab Go.Wk Go.Pc
end Go.Pl

namespace Go.Pl
open Go Go.Ab Go.Wk Go.Pc
end Go.Pl

namespace Go.Pl
open Go Go.Ab Go.Wk Go.Pc
end Go.Pl

namespace Go.Pl
open Go Go.Ab Go.Wk Go.Pc
end Go.Pl

namespace Go.Pl
open Go Go.Ab Go.Wk Go.Pc
def xI(D N:Nat)(pv:Nat→Nat):List Nat:=(Ju D).filter fun c=>(Ju N).all fun i=>pv i != c
abbrev zAQ(D N:Nat)(pv:Nat→Nat):List Int:=(xI D N pv).map fun(c:Nat)=>(c:Int)
theorem zCT{D N:Nat}{pv:Nat→Nat}{a:Nat}(h:a<(xI D N pv).length):(xI D N pv).getD a 0<D:=by grind[xI,Jt]
theorem qS{D N:Nat}{pv:Nat→Nat}:(xI D N pv).length≤D:=by have:=List.length_filter_le (fun c=>(Ju N).all fun i=>pv i != c) (Ju D);rw[H8]at this;exact this
theorem zOe{D N:Nat}{pv:Nat→Nat}{a:Nat}(h:a<(xI D N pv).length):ixO (zAQ D N pv) (a:Int)=jq (((xI D N pv).getD a 0:Nat):Int):=by grind[tL]
theorem zEF{D N:Nat}{pv:Nat→Nat}:zAQ (D+1) N pv=if(Ju N).all (fun i=>pv i != D)then zAQ D N pv++[(D:Int)]else zAQ D N pv:=by
 simp only[zAQ,xI,L9,List.filter_append,L7]
 grind
theorem zHC{N:Nat}{pv:Nat→Nat}{c:Nat}(hN:N≤1000000):zVi (gl N fun i=>(pv i:Int)) (c:Int)=jq (!((Ju N).all fun i=>pv i != c)):=by
 unfold zVi zY3;rcases chk (body:=zL7 (gl N fun i=>(pv i:Int)) (c:Int)) N 0 (Jw _) (fun i=>pv i≠c) (fun i=>(i:Int)) (fun i _ hi _=>by
   unfold zL7;rw[yK,xH hi,zJ,uD hi,bs]
   by_cases e:pv i=c
   ·grind
   ·rw[zBw (by omega:(c:Int)≠(pv i:Int)),zK,zH (by omega) (by omega),bs,cs];grind) (by
   simp_all[zL7])with⟨g1,g2⟩|⟨i,_,hi,g1,g2⟩
 ·grind
 ·rw[show((0:Nat):Int)=0 from rfl]at g1
  have e:((Ju N).all fun i=>pv i != c)=jt:=by grind
  simp_all
end Go.Pl
