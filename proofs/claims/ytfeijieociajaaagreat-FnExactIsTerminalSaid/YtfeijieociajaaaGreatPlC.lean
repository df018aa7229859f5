/- The program's IsTerminal returns what the reference's returns,for all arguments;no conditions. -/
import Derived.Test.YtfeijieociajaaaGreatPlB
import Derived.Test.YtfeijieociajaaaGreatWF
import Derived.Test.YtfeijieociajaaaGreatPlA
open List renaming replicate→J1,getD_eq_getElem?_getD→J2,getElem?_eq_getElem→J3,length_append→J5,length_cons→J7,mem_cons→J9,mem_append→Ja,length_singleton→Jb,mem_map→Jc,range→Jd,length_map→Jf,append_assoc→Jg,append_nil→Jh,length_replicate→Jk,getElem?_append_right→Jm,take_left'→Jr,getElem_mem→Js,length_nil→Jt,map_cons→Ju,replicate_succ→Jv,getElem?_map→Jw,take_of_length_le→Jx,nil_append→Jz,drop_left'→K0,getElem?_append_left→K1,getElem?_replicate→K4,take_succ_eq_append_getElem→K5,map_append→K6,range'→K7,cons_append→K9,take_zero→Kc,length_take→Kd,reverse_reverse→Kh,all_eq_true→Ki,length_drop→Kk,flatMap_cons→Kq,range_eq_range'→Ku,range_succ→Kz,map_nil→La,set_cons_succ→Ld,length_range→Le,getElem?_eq_none→Lf,take_add_one→Lg,mem_range→Lh,mem_flatMap→Li,take_length→Lm,replicate_succ'→Lv,replicate_zero→Lz,eq_of_mem_replicate→H1,mem_iff_getElem→H3,length_set→Hf,filterMap_cons→Hk,drop_eq_nil_of_le→Hl,range'_succ→Ho,mem_append_right→Hp,drop_eq_getElem_cons→Hq,flatten_cons→Hr,reverse_cons→G8,not_mem_nil→G9,getD_cons_zero→Gp,ext_getElem→Gt,mem_append_left→U4,flatMap_append→U5,getD→U7,drop_zero→Uf,flatten_append→Uk,drop_of_length_le→Uo,flatten_nil→Uz,flatMap_nil→qc9,length→Qd,range'_1_concat→Qj,length_range'→Qz,mem_of_mem_head?→Ja4,findSome?_cons→Jad,mem_filterMap→Jai,getElem?_set_self→Jaj,mem_flatten→Jaz,map_map→Jb1,getElem?_set_ne→Jb2,mem_range'→Jb8,head?_cons→Jba,range_zero→Jc0
open Int renaming toNat_natCast->J8,emod_eq_of_lt->Jp,mul_emod->Jy,emod_emod->K3,add_emod->Ka,emod_lt_of_pos->Kg,emod_nonneg->Kj,mul_one->L6,add_zero->L7,mul_zero->Ln,tmod_eq_emod_of_nonneg->Hg,natCast_add->Hn,emod_add_emod->G4,mul_comm->Gz,natCast_mul->Up,mul_le_mul_of_nonneg_left->Q7,sub_emod->Qe,mul_add->Jak,emod_self->Jap
open Nat renaming le_refl->Je,zero_add->Ji,lt_or_ge->Jo,mul_le_mul->Jq,succ_mul->K8,mul_le_mul_right->Kb,sub_self->Kn,zero_le->Lb,le_trans->Lu,div_add_mod->Lw,mul_one->Ly,add_sub_cancel_left->H4,div_lt_iff_lt_mul->H7,mod_lt->Hu,add_mul->Hv,lt_trichotomy->G1,zero_mul->Uy,mul_add->Qr,lt_irrefl->Jam,eq_zero_or_pos->Jaw,add_sub_cancel->Jax
open Bool renaming not_true->L5,not_false->H5,false_eq_true->Hs
open Option renaming map_some->He,some->Hm,bind->U0,isSome_none->Ue,map_none->Jab
open Prod renaming mk->Jah
open Option renaming some->jd,none->je
open Bool renaming true->jf,false->jg
namespace Go.Pl
open Go Go.Ab Go.Wk Go.Pc
variable {j k N i D l d:Nat}{x:SPr}{y c a:Vec}{u A M Q:Mx}{e q:Int}{m:zE}{r:zC3}{w':List Nat}{out o1:List zI}{C:Nat->Option Vec}
section
variable {D:Nat}{x:SPr}{m:zE}{T:Mx} (h:Pres x) (hE:ExB x.zA.length D x m T) (hT:∀i,i<T.length->Row m.Prime D (T.getD i []))
 include h hE hT
variable {k:Nat} (hk:k<x.zA.length) (hc:xC (suf (exx D x m T) (k+1)))
 include hk hc
 omit hc in
theorem zOS:∀(q:Nat){e:Vec},V (suf (exx D x m T) (k+1)) e->V (suf (exx D x m T) (k+1)) (iter q (sig (suf (exx D x m T) (k+1)) (lvl (exx D x m T) k)) e)
  |0,_,he=>he
  |q+1,_,he=>zOS q (zAr h hE hT hk he)
 omit hc in
theorem zZN:∀(q:Nat){e d:Vec},V (suf (exx D x m T) (k+1)) e->Row m.Prime D d->iter q (sig (suf (exx D x m T) (k+1)) (lvl (exx D x m T) k)) (adK m.Prime D (x.zA.length-(k+1)) e d)=adK m.Prime D (x.zA.length-(k+1)) (iter q (sig (suf (exx D x m T) (k+1)) (lvl (exx D x m T) k)) e) (xK m.Prime D d (wM m.Prime D m.zL (J1 q k) (idM D)))
  |0,e,d,_,hd=>by show adK _ _ _ e d=adK _ _ _ e (xK m.Prime D d (idM D));rw[sY hd]
  |q+1,e,d,he,hd=>by have hp:=hE.m.p.pos;show iter q _ (sig _ _ (adK _ _ _ e d))=adK _ _ _ (iter q _ (sig _ _ e)) _;rw[zHS h hE hT hk he hd,zZN q (zAr h hE hT hk he) (wW),Jv,show k::J1 q k=[k]++J1 q k from rfl,zEI (by omega),zKP h hE hT hk hk]
theorem zUZ:∀(q:Nat){c:Int}{e:Vec},0<=c->c+(q:Int)<at0 x.zA k->V (suf (exx D x m T) (k+1)) e->fo (exx D x m T) k (c::e) (J1 q k)=(c+(q:Int))::iter q (sig (suf (exx D x m T) (k+1)) (lvl (exx D x m T) k)) e
 |0,c,e,_,_,_=>by show c::e=(c+((0:Nat):Int))::e;simp
 |q+1,c,e,h0,h1,he=>by
  rw[Jv,tX,zGd h hE hT hk hc he,if_neg (by omega),zUZ q (by omega) (by omega) (zAr h hE hT hk he)]
  grind[iter]
theorem zVa(hL:LC x k)(h1:k+1<=j)(h2:j<x.zA.length){t1 t2:List (Nat×List Nat)}{y1 y2:Vec}(k1:tR x k (k::(nw 0 (lcj x k j)++J1 (yC x k-1) k)) t1 y1)(k2:tR x k (j::nw 0 (x.zP.getD k [])) t2 y2):
  y1=y2/\(tv m.Prime D m T ((base x.zA.length k+(j-(k+1)),J1 (yC x k-1) k)::t1)=tv m.Prime D m T ((k,[])::t2)↔c4E (exx D x m T) k j):=by
 have hp:=hE.m.p.pos;have ho:=(h.os.2 k hk).pos;have hon:(yC x k:Int)=at0 x.zA k:=by grind
 obtain⟨w1,w2,w3,w4⟩:=wE h hE hT hk hc;have pS:=zDe h hE hT (k:=k+1) (by omega) w1 (yX (p:=m.Prime) (D:=D));have fS:=zRU h hE hT hk;have eE:=zBB h hE hT hk;obtain⟨c1,c2,c3,c4⟩:=csE h hE hT hk hc h1 h2;have cI:=zDe h hE hT (k:=k+1) (by omega) c1 (yX (p:=m.Prime) (D:=D));have ak:=zDu h hE hT (show k<j by omega) h2;have gz:=uF h hE hT (k:=k+1) (by omega);have hg:=zC5 h hE hT h1 h2;obtain⟨g1,g2⟩:=zQV h hE hT hk hc h1 h2;have hz:fo (exx D x m T) (k+1) (zeros ((exx D x m T).zA.length-(k+1))) []=zeros ((exx D x m T).zA.length-(k+1)):=rfl;have hs:sig (suf (exx D x m T) (k+1)) (lvl (exx D x m T) k) (zeros ((exx D x m T).zA.length-(k+1)))=zeros ((exx D x m T).zA.length-(k+1)):=by grind[sig,tL,yB]
 have hl:=xV h hE hT;have v1:=zDP h hE hT hk hc (v:=[]) (by simp) (z:=nw 0 (lcj x k j)++J1 (yC x k-1) k);rw[hz,hs]at v1;have v0:=v1.trans (zC4 (e:=exx D x m T) (k:=k) (u:=(1:Int)::zeros ((exx D x m T).zA.length-(k+1))) (v:=nw 0 (lcj x k j)) (w:=J1 (yC x k-1) k));rw[zHX h hE hT hk hc (by omega) _ _ c4,c3]at v0;have eh:=zOS h hE hT hk (yC x k-2) cI;have v1':fo (exx D x m T) k (zeros ((exx D x m T).zA.length-k)) (k::(nw 0 (lcj x k j)++J1 (yC x k-1) k))=0::mul (suf (exx D x m T) (k+1)) (lvl (exx D x m T) k).w (iter (yC x k-1) (sig (suf (exx D x m T) (k+1)) (lvl (exx D x m T) k)) ((lcj x k j).drop (k+1)++zeros D)):=by
  refine v0.trans ?_;rw[show yC x k-1=(yC x k-2)+1 from by omega,Lv,zC4,zUZ h hE hT hk hc (yC x k-2) (by omega) (by omega) cI];show mul _ _ _=_;rw[zGd h hE hT hk hc eh,if_pos (by omega),xP]
  grind
 have hr:∀a∈j::nw 0 (x.zP.getD k []),k+1<=a/\a<x.zA.length:=by grind
 have v2:fo (exx D x m T) k (zeros ((exx D x m T).zA.length-k)) (j::nw 0 (x.zP.getD k []))=0::mul (suf (exx D x m T) (k+1)) (xG ((exx D x m T).zA.length-(k+1)) (j-(k+1))) ((x.zP.getD k []).drop (k+1)++zeros D):=by rw[show zeros ((exx D x m T).zA.length-k)=0::zeros ((exx D x m T).zA.length-(k+1))from by rw[show(exx D x m T).zA.length-k=(exx D x m T).zA.length-(k+1)+1 from by omega];rfl,zHX h hE hT hk hc (by omega) _ _ hr,tX,zQU h hE hT hk hc hg,zHY h hE hT hk hc w4 hg,w3]
 have e1:adK m.Prime D (x.zA.length-(k+1)) (mul (suf (exx D x m T) (k+1)) (lvl (exx D x m T) k).w (iter (yC x k-1) (sig (suf (exx D x m T) (k+1)) (lvl (exx D x m T) k)) ((lcj x k j).drop (k+1)++zeros D))) (xK m.Prime D (T.getD (base x.zA.length k+(j-(k+1))) []) (wM m.Prime D m.zL (J1 (yC x k-1) k) (idM D)))=mul (suf (exx D x m T) (k+1)) (lvl (exx D x m T) k).w (iter (lvl (exx D x m T) k).o.toNat (sig (suf (exx D x m T) (k+1)) (lvl (exx D x m T) k)) (xG ((exx D x m T).zA.length-(k+1)) (j-(k+1)))):=by rw[<-zMP h hE hT hk hc (zOS h hE hT hk _ cI) (wW) fS,<-zZN h hE hT hk _ cI ak,<-c2,<-g2,zBn h hE hT hk,show(at0 x.zA k).toNat=(yC x k-1)+1 from by omega];rfl
 have e2:adK m.Prime D (x.zA.length-(k+1)) (mul (suf (exx D x m T) (k+1)) (xG ((exx D x m T).zA.length-(k+1)) (j-(k+1))) ((x.zP.getD k []).drop (k+1)++zeros D)) (xK m.Prime D (T.getD k []) (wM m.Prime D m.zL [] (idM D)))=mul (suf (exx D x m T) (k+1)) (xG ((exx D x m T).zA.length-(k+1)) (j-(k+1))) (lvl (exx D x m T) k).w:=by rw[show wM m.Prime D m.zL [] (idM D)=idM D from rfl,sY eE,<-zMP h hE hT hk hc pS eE hg,<-w2]
 have dV:(lvl (exx D x m T) k).w.take (x.zA.length-(k+1))=(lvl x k).w:=zHR h hE hT hk (Je k) hk;have gT:(xG (x.zA.length-(k+1)) (j-(k+1))).length=x.zA.length-(k+1):=by simp[xG,zeros]
 obtain⟨hy,this⟩:=zG8 h hE hT hk hc k1 k2 (r1:=base x.zA.length k+(j-(k+1))) (r2:=k) (s1:=J1 (yC x k-1) k) (s2:=[]) (yO gz fS (zOS h hE hT hk _ cI)) (yO gz hg pS) v1' v2 (by rw[e1,e2,zBD h hE hT (by omega) fS (zOS h hE hT hk _ hg),zBD h hE hT (by omega) hg fS,zKJ h hE hT hk _ hg,dV,zUL h hE hT hk h1 h2,Jr gT,zBn h hE hT hk];exact hL.c4 j h1 h2)
 rw[e1,e2]at this;exact⟨hy,this⟩
end
structure zKR (x:SPr) (k:Nat) (r1:Nat) (s1 w1:List Nat) (r2:Nat) (s2 w2:List Nat) (t1 t2:List (Nat×List Nat)):Prop where
 a:∃u1 y1,t1=(r1,s1)::u1/\tR x k w1 u1 y1
 b:∃u2 y2,t2=(r2,s2)::u2/\tR x k w2 u2 y2
structure zZO (x:SPr) (D:Nat) (m:zE) (T:Mx):Prop where
 p1:∀k j,k<j->j<x.zA.length-> ∀t1 t2,zKR x k j [k] (nw 0 (x.zP.getD j [])++[k]) (base x.zA.length k+(j-(k+1))) [] (J1 (yC x j-1) j++k::nw 0 (lcj x k j)) t1 t2->tv m.Prime D m T t1=tv m.Prime D m T t2
 p2:∀k i j,k<i->i<j->j<x.zA.length-> ∀t1 t2,zKR x k (base x.zA.length i+(j-(i+1))) [k] (i::(nw 0 (lcj x i j)++[k])) (base x.zA.length k+(i-(k+1))) [] (j::k::nw 0 (lcj x k i)) t1 t2->tv m.Prime D m T t1=tv m.Prime D m T t2
 p3:∀k,k<x.zA.length-> ∀t1 t2,zKR x k k [k] (nw 0 (x.zP.getD k [])++[k]) k [] (k::nw 0 (x.zP.getD k [])) t1 t2->tv m.Prime D m T t1=tv m.Prime D m T t2
 p4:∀k j,k<j->j<x.zA.length-> ∀t1 t2,zKR x k (base x.zA.length k+(j-(k+1))) (J1 (yC x k-1) k) (k::(nw 0 (lcj x k j)++J1 (yC x k-1) k)) k [] (j::nw 0 (x.zP.getD k [])) t1 t2->tv m.Prime D m T t1=tv m.Prime D m T t2
section
variable {D:Nat}{x:SPr}{m:zE}{T:Mx} (h:Pres x) (hE:ExB x.zA.length D x m T) (hT:∀i,i<T.length->Row m.Prime D (T.getD i []))
 include h hE hT
theorem zJ9(hk:k<x.zA.length)(hL:LC x k)(hc:xC (suf (exx D x m T) (k+1))):LCn x (exx D x m T) k↔
  (∀j,k<j->j<x.zA.length-> ∀t1 t2,zKR x k j [k] (nw 0 (x.zP.getD j [])++[k]) (base x.zA.length k+(j-(k+1))) [] (J1 (yC x j-1) j++k::nw 0 (lcj x k j)) t1 t2->tv m.Prime D m T t1=tv m.Prime D m T t2)/\
  (∀i j,k<i->i<j->j<x.zA.length-> ∀t1 t2,zKR x k (base x.zA.length i+(j-(i+1))) [k] (i::(nw 0 (lcj x i j)++[k])) (base x.zA.length k+(i-(k+1))) [] (j::k::nw 0 (lcj x k i)) t1 t2->tv m.Prime D m T t1=tv m.Prime D m T t2)/\
  (∀t1 t2,zKR x k k [k] (nw 0 (x.zP.getD k [])++[k]) k [] (k::nw 0 (x.zP.getD k [])) t1 t2->tv m.Prime D m T t1=tv m.Prime D m T t2)/\
  (∀j,k<j->j<x.zA.length-> ∀t1 t2,zKR x k (base x.zA.length k+(j-(k+1))) (J1 (yC x k-1) k) (k::(nw 0 (lcj x k j)++J1 (yC x k-1) k)) k [] (j::nw 0 (x.zP.getD k [])) t1 t2->tv m.Prime D m T t1=tv m.Prime D m T t2):=by
 have hC:=fun(w:List Nat)(hw:∀a∈w,k<=a/\a<x.zA.length)=>zYg h (x.zA.length-k) k (by omega) w hw
 have fu:∀i j,i<j->j<x.zA.length-> ∀a∈nw 0 (lcj x i j),i+1<=a/\a<x.zA.length:=fun i j hi hj=>(uW h (uC h hi hj) (by omega)).2
 have fE:∀i,i<x.zA.length-> ∀a∈nw 0 (x.zP.getD i []),i+1<=a/\a<x.zA.length:=fun i hi=>(uW h (sQ h hi) hi).2
 constructor
 ·intro g
  refine⟨?_,?_,?_,?_⟩
  ·rintro j h1 h2 t1 t2 ⟨⟨u1,y1,rfl,k1⟩,⟨u2,y2,rfl,k2⟩⟩
   exact(zUX h hE hT hk hc hL (by omega) h2 k1 k2).2.2 (g.c1 j (by omega) h2)
  ·rintro i j h1 gI h2 t1 t2 ⟨⟨u1,y1,rfl,k1⟩,⟨u2,y2,rfl,k2⟩⟩
   exact(zUY h hE hT hk hc hL (by omega) gI h2 k1 k2).2.2 (g.c2 i (by omega) (by omega) j (by omega) h2)
  ·rintro t1 t2 ⟨⟨u1,y1,rfl,k1⟩,⟨u2,y2,rfl,k2⟩⟩
   exact(zUW h hE hT hk hc hL k1 k2).2.2 g.c3
  ·rintro j h1 h2 t1 t2 ⟨⟨u1,y1,rfl,k1⟩,⟨u2,y2,rfl,k2⟩⟩
   exact(zVa h hE hT hk hc hL (by omega) h2 k1 k2).2.2 (g.c4 j (by omega) h2)
 ·rintro⟨g1,g2,g3,g4⟩
  refine⟨fun j h1 h2=>?_,fun i h1 hi j gI h2=>?_,?_,fun j h1 h2=>?_⟩
  ·obtain⟨u1,y1,k1⟩:=hC (nw 0 (x.zP.getD j [])++[k]) (fun a ha=>by
    simp only[Ja,List.mem_singleton]at ha;rcases ha with ha|rfl
    ·grind
    ·omega)
   obtain⟨u2,y2,k2⟩:=hC (J1 (yC x j-1) j++k::nw 0 (lcj x k j)) (fun a ha=>by
    simp only[Ja,J9]at ha;rcases ha with ha|rfl|ha
    ·grind
    ·omega
    grind)
   exact(zUX h hE hT hk hc hL h1 h2 k1 k2).2.1 (g1 j (by omega) h2 _ _ ⟨⟨u1,y1,rfl,k1⟩,⟨u2,y2,rfl,k2⟩⟩)
  ·obtain⟨u1,y1,k1⟩:=hC (i::(nw 0 (lcj x i j)++[k])) (fun a ha=>by
    simp only[Ja,J9,G9,or_false]at ha;rcases ha with rfl|ha|rfl
    ·omega
    ·grind
    ·omega)
   obtain⟨u2,y2,k2⟩:=hC (j::k::nw 0 (lcj x k i)) (fun a ha=>by
    simp only[J9]at ha;rcases ha with rfl|rfl|ha
    ·omega
    ·omega
    grind)
   exact(zUY h hE hT hk hc hL h1 (by omega) h2 k1 k2).2.1 (g2 i j (by omega) (by omega) h2 _ _ ⟨⟨u1,y1,rfl,k1⟩,⟨u2,y2,rfl,k2⟩⟩)
  ·obtain⟨u1,y1,k1⟩:=hC (nw 0 (x.zP.getD k [])++[k]) (fun a ha=>by
    simp only[Ja,List.mem_singleton]at ha;rcases ha with ha|rfl
    ·grind
    ·omega)
   obtain⟨u2,y2,k2⟩:=hC (k::nw 0 (x.zP.getD k [])) (fun a ha=>by
    simp only[J9]at ha;rcases ha with rfl|ha
    ·omega
    grind)
   exact(zUW h hE hT hk hc hL k1 k2).2.1 (g3 _ _ ⟨⟨u1,y1,rfl,k1⟩,⟨u2,y2,rfl,k2⟩⟩)
  ·obtain⟨u1,y1,k1⟩:=hC (k::(nw 0 (lcj x k j)++J1 (yC x k-1) k)) (fun a ha=>by
    simp only[Ja,J9]at ha;rcases ha with rfl|ha|ha
    ·omega
    ·grind
    grind)
   obtain⟨u2,y2,k2⟩:=hC (j::nw 0 (x.zP.getD k [])) (fun a ha=>by
    simp only[J9]at ha;rcases ha with rfl|ha
    ·omega
    grind)
   exact(zVa h hE hT hk hc hL h1 h2 k1 k2).2.1 (g4 j (by omega) h2 _ _ ⟨⟨u1,y1,rfl,k1⟩,⟨u2,y2,rfl,k2⟩⟩)
theorem zJA(hx:xC (suf x 0))(hr:zF0 x m D):zZO x D m T↔xC (suf (exx D x m T) 0):=by
 have hl:=xV h hE hT;have pd:∀k,k<x.zA.length->LC x k:=fun k hk=>((kD h.w hk).1 (tM hx k)).2
 constructor
 ·intro g
  have key:∀(d k:Nat),k+d=x.zA.length->xC (suf (exx D x m T) k):=by
   intro d
   induction d with
   |zero=>grind[zHQ]
   |succ d ih=>
    intro k hk;have hc:=ih (k+1) (by omega);refine(kD (zE9 h hE hT) (by omega)).2 ⟨hc,zUF h hE hT hr (by omega) ((zJ9 h hE hT (by omega) (pd k (by omega)) hc).2 ⟨?_,?_,?_,?_⟩)⟩
    ·exact fun j h1 h2 t1 t2 b=>g.p1 k j h1 h2 t1 t2 b
    ·exact fun i j h1 gI h2 t1 t2 b=>g.p2 k i j h1 gI h2 t1 t2 b
    ·exact fun t1 t2 b=>g.p3 k (by omega) t1 t2 b
    ·exact fun j h1 h2 t1 t2 b=>g.p4 k j h1 h2 t1 t2 b
  simp_all
 ·intro g
  have g0:=(zQN h hE hT hr).1 g;have hck:∀k,k<x.zA.length->xC (suf (exx D x m T) (k+1)):=by grind[tM]
  have key:=fun k(hk:k<x.zA.length)=>(zJ9 h hE hT hk (pd k hk) (hck k hk)).1 (g0 k hk)
  exact⟨fun k j h1 h2=>(key k (by omega)).1 j h1 h2,fun k i j h1 gI h2=>(key k (by omega)).2.1 i j h1 gI h2,fun k hk=>(key k hk).2.2.1,fun k j h1 h2=>(key k (by omega)).2.2.2 j h1 h2⟩
end
theorem Col.det{k':Nat}{w:List Nat}{t1 t2:List (Nat×List Nat)}{w1 w2:List Nat}(h1:Col x k w t1 w1)(h2:Col x k' w t2 w2)(n1:stS x w1=je)(n2:stS x w2=je):t1=t2/\w1=w2:=by
 induction h1 generalizing t2 with
 |refl w=>
  cases h2 with
  |refl=>simp
  |step _ hs _=>grind
 |step hw hs hc ih=>
  cases h2 with
  |refl=>grind
  |step _ av ph=>
   grind
structure Fh (n D D2:Nat) (m m2:zE) (T T2:Mx) (φ:Vec->Vec):Prop where
 pr:m2.Prime=m.Prime
 row:∀u,Row m.Prime D u->Row m.Prime D2 (φ u)
 z:φ (zeros D)=zeros D2
 add:∀u v,Row m.Prime D u->Row m.Prime D v->φ (adv m.Prime D u v)=adv m.Prime D2 (φ u) (φ v)
 act:∀k,k<n-> ∀u,Row m.Prime D u->φ (xK m.Prime D u (m.zL.getD k []))=xK m.Prime D2 (φ u) (m2.zL.getD k [])
 t:∀r,r<base n n->φ (T.getD r [])=T2.getD r []
def Fm(φ:Vec->Vec)(N:Nat)(e:Vec):Vec:=e.take N++φ (e.drop N)
theorem zAs{φ:Vec->Vec}{u:Vec}(hy:y.length=N):Fm φ N (y++u)=y++φ u:=by grind[Fm]
theorem zG9{φ:Vec->Vec}{b:Int}{e:Vec}:Fm φ (N+1) (b::e)=b::Fm φ N e:=by rfl
section
variable {D D2:Nat}{x:SPr}{m m2:zE}{T T2:Mx}{φ:Vec->Vec} (h:Pres x) (hE:ExB x.zA.length D x m T) (hT:∀i,i<T.length->Row m.Prime D (T.getD i [])) (gN:ExB x.zA.length D2 x m2 T2) (gR:∀i,i<T2.length->Row m2.Prime D2 (T2.getD i [])) (hF:Fh x.zA.length D D2 m m2 T T2 φ)
 include h hE hT gN gR hF
theorem yDJ(hk:k<=x.zA.length):Fm φ (x.zA.length-k) (zeros (suf (exx D x m T) k).length)=zeros (suf (exx D2 x m2 T2) k).length:=by rw[zAM h hE hT hk,zAM h gN gR hk,zAs (zT _),hF.z]
theorem zQW(h1:k+1<=j)(h2:j<x.zA.length):Fm φ (x.zA.length-(k+1)) ((lvl (exx D x m T) k).cs.getD (j-(k+1)) [])=(lvl (exx D2 x m2 T2) k).cs.getD (j-(k+1)) []:=by
 have hn:=hE.hn;have hb:=zAa x.zA.length (by omega) k (by omega);have gy:V (suf x (k+1)) ((lcj x k j).drop (k+1)):=by grind[qZ,uC]
 rw[zHO h hE hT (by omega) h1 h2,zHO h gN gR (by omega) h1 h2,show(lvl x k).cs.getD (j-(k+1)) []=(lcj x k j).drop (k+1)from map_drop,zAs (wY h (by omega) gy),hF.t _ (by omega)]
theorem yBx(hk:k<x.zA.length):Fm φ (x.zA.length-(k+1)) (lvl (exx D x m T) k).w=(lvl (exx D2 x m2 T2) k).w:=by have hn:=hE.hn;have hb:=xY x.zA.length (by omega);have ck:V (suf x (k+1)) ((x.zP.getD k []).drop (k+1)):=qZ (sQ h hk) hk;rw[zHL h hE hT hk,zHL h gN gR hk,show(lvl x k).w=(x.zP.getD k []).drop (k+1)from rfl,zAs (wY h (by omega) ck),hF.t _ (by omega)]
theorem zVb(hk:k<x.zA.length)(ih:∀a b,V (suf (exx D x m T) (k+1)) a->V (suf (exx D x m T) (k+1)) b->Fm φ (x.zA.length-(k+1)) (mul (suf (exx D x m T) (k+1)) a b)=mul (suf (exx D2 x m2 T2) (k+1)) (Fm φ (x.zA.length-(k+1)) a) (Fm φ (x.zA.length-(k+1)) b)){v:Vec}(hv:V (suf (exx D x m T) (k+1)) v):
  Fm φ (x.zA.length-(k+1)) (sig (suf (exx D x m T) (k+1)) (lvl (exx D x m T) k) v)=sig (suf (exx D2 x m2 T2) (k+1)) (lvl (exx D2 x m2 T2) k) (Fm φ (x.zA.length-(k+1)) v):=by
 have hp:=hE.m.p.pos;have ok:=uF h hE hT (k:=k+1) (by omega);obtain⟨y,u,rfl,hy,hu⟩:=(tK h hE hT (x.zA.length-(k+1)) (k+1) (by omega) _).1 hv;have eC:=wY h (by omega) hy;have p6:Row m2.Prime D2 (φ u):=by rw[hF.pr];exact hF.row u hu
 have hsg:Fm φ (x.zA.length-(k+1)) (sgG D x m T k y)=sgG D2 x m2 T2 k y:=by
  unfold sgG;rw[zEB (S:=V (suf (exx D x m T) (k+1))) (n:=mul (suf (exx D2 x m2 T2) (k+1))) (Fm φ (x.zA.length-(k+1))) (fun a b=>yO ok) ih _ _ _ (zQM h hE hT hk) (wC ok),yDJ h hE hT gN gR hF (by omega)]
  congr 1
  apply Gt
  ·grind[qG]
  ·intro i h1 h2
   rw[Jf,qG h hE hT]at h1;have e1:(eC1 x T k)[i]'(by grind)=(lvl (exx D x m T) k).cs.getD (k+1+i-(k+1)) []:=by rw[show k+1+i-(k+1)=i from by omega,zB9 h hE hT hk,J2,K1 (by grind),J3 (by rw[qG h hE hT];exact h1)];rfl
   have e2:(eC1 x T2 k)[i]'h2=(lvl (exx D2 x m2 T2) k).cs.getD (k+1+i-(k+1)) []:=by rw[show k+1+i-(k+1)=i from by omega,zB9 h gN gR hk,J2,K1 h2,J3 h2];rfl
   rw[List.getElem_map,e1,e2,zQW h hE hT gN gR hF (by omega) (by omega)]
 obtain⟨y1,u1,e,eD,cu⟩:=(tK h hE hT (x.zA.length-(k+1)) (k+1) (by omega) _).1 (zHM h hE hT hk (y:=y));have gL:=wY h (by omega) eD;rw[e,zAs gL]at hsg;rw[zBA h hE hT hk hy hu,e,Jr gL,K0 gL,zAs gL,zAs eC,zBA h gN gR hk hy p6,<-hsg,Jr gL,K0 gL,hF.pr,hF.add _ _ cu (wW),hF.act k hk u hu]
theorem zKS{k:Nat}(hk:k<x.zA.length)(ih:∀a b,V (suf (exx D x m T) (k+1)) a->V (suf (exx D x m T) (k+1)) b->Fm φ (x.zA.length-(k+1)) (mul (suf (exx D x m T) (k+1)) a b)=mul (suf (exx D2 x m2 T2) (k+1)) (Fm φ (x.zA.length-(k+1)) a) (Fm φ (x.zA.length-(k+1)) b)):∀(q:Nat){v:Vec},V (suf (exx D x m T) (k+1)) v->
  Fm φ (x.zA.length-(k+1)) (iter q (sig (suf (exx D x m T) (k+1)) (lvl (exx D x m T) k)) v)=iter q (sig (suf (exx D2 x m2 T2) (k+1)) (lvl (exx D2 x m2 T2) k)) (Fm φ (x.zA.length-(k+1)) v)
 |0,_,_=>rfl
 |q+1,v,hv=>by show Fm φ _ (iter q _ (sig _ _ v))=iter q _ (sig _ _ (Fm φ _ v));rw[zKS hk ih q (zAr h hE hT hk hv),zVb h hE hT gN gR hF hk ih hv]
theorem zOT:∀(d k:Nat),k+d=x.zA.length-> ∀a b,V (suf (exx D x m T) k) a->V (suf (exx D x m T) k) b->Fm φ (x.zA.length-k) (mul (suf (exx D x m T) k) a b)=mul (suf (exx D2 x m2 T2) k) (Fm φ (x.zA.length-k) a) (Fm φ (x.zA.length-k) b)
 |0,k,hk,a,b,ha,hb=>by
  have hp:=hE.m.p.pos;have m8:=gN.m.p.pos;rw[zAb h hE hT D k (by omega) (by omega)]at ha hb ⊢
  rw[zAb h gN gR D2 k (by omega) (by omega)];have pP:=(zDs _ _).1 ha;have gZ:=(zDs _ _).1 hb;have e:∀w:Vec,Fm φ (x.zA.length-k) w=φ w:=fun w=>by rw[Fm,show x.zA.length-k=0 from by omega];rfl
  rw[e,e,e,qF (by omega) D _ _ pP gZ,hF.add _ _ pP gZ,hF.pr,qF (by omega) D2 _ _ (hF.row _ pP) (hF.row _ gZ)]
 |d+1,k,hk,a,b,ha,hb=>by
  have eY:k<x.zA.length:=by omega
  have ih:=zOT d (k+1) (by omega);have hl:=xV h hE hT;have aQ:=xV h gN gR;have ok:=uF h hE hT (k:=k+1) (by omega);have fS:=zRU h hE hT eY;rw[zY (x:=exx D x m T)]at ha hb ⊢
  rw[zY (x:=exx D2 x m2 T2)];cases a with
  |nil=>exact ha.elim
  |cons a u=>
  cases b with
  |nil=>exact hb.elim
  |cons b v=>
   obtain⟨_,ha⟩:=ha;obtain⟨_,hb⟩:=hb;have eh:=zOS h hE hT eY b.toNat ha;have hm:=yO ok eh hb;rw[show x.zA.length-k=x.zA.length-(k+1)+1 from by omega,zG9,zG9,yJ,yJ,zBn h hE hT eY,zBn h gN gR eY,<-zKS h hE hT gN gR hF eY ih _ ha,<-ih _ _ eh hb]
   by_cases g:a+b>=at0 x.zA k
   ·rw[if_pos g,if_pos g,zG9,ih _ _ fS hm,yBx h hE hT gN gR hF eY]
   ·rw[if_neg g,if_neg g,zG9]
end
section
variable {D D2:Nat}{x:SPr}{m m2:zE}{T T2:Mx}{φ:Vec->Vec} (h:Pres x) (hE:ExB x.zA.length D x m T) (hT:∀i,i<T.length->Row m.Prime D (T.getD i [])) (gN:ExB x.zA.length D2 x m2 T2) (gR:∀i,i<T2.length->Row m2.Prime D2 (T2.getD i [])) (hF:Fh x.zA.length D D2 m m2 T T2 φ)
 include h hE hT gN gR hF
theorem zZP{k:Nat}(hk:k<x.zA.length){c:Vec}(hc:V (suf (exx D x m T) (k+1)) c):∀q,Fm φ (x.zA.length-(k+1)) (pw (mul (suf (exx D x m T) (k+1))) (zeros (suf (exx D x m T) (k+1)).length) c q)=pw (mul (suf (exx D2 x m2 T2) (k+1))) (zeros (suf (exx D2 x m2 T2) (k+1)).length) (Fm φ (x.zA.length-(k+1)) c) q
 |0=>yDJ h hE hT gN gR hF (by omega)
 |q+1=>by have ok:=uF h hE hT (k:=k+1) (by omega);have hq:V (suf (exx D x m T) (k+1)) (pw (mul (suf (exx D x m T) (k+1))) (zeros (suf (exx D x m T) (k+1)).length) c q):=vV (by grind[yO]) q (wC ok);have ih:=zZP hk hc q;rw[pw,xP,pw,xP];show Fm φ _ (mul _ (pw _ _ c q) c)=mul _ (pw _ _ (Fm φ _ c) q) (Fm φ _ c);rw[zOT h hE hT gN gR hF _ (k+1) (by omega:k+1+(x.zA.length-(k+1))=x.zA.length) _ _ hq hc,ih]
theorem yBy(hk:k<=j)(hj:j<x.zA.length):V (suf (exx D x m T) (k+1)) (((exx D x m T).zP.getD j []).drop (k+1))/\Fm φ (x.zA.length-(k+1)) (((exx D x m T).zP.getD j []).drop (k+1))=((exx D2 x m2 T2).zP.getD j []).drop (k+1):=by
 have hn:=hE.hn;have hb:=xY x.zA.length (by omega);have hpx:V (suf x (k+1)) ((x.zP.getD j []).drop (k+1)):=by grind[qZ,zKQ,sQ]
 rw[zDL h hE hT hk hj,zDL h gN gR hk hj];exact⟨by grind[zDe,zBB],by rw[zAs (wY h (by omega) hpx),hF.t _ (by omega)]⟩
theorem yBz(hk:k<=i)(hi:i<j)(hj:j<x.zA.length):V (suf (exx D x m T) (k+1)) ((((exx D x m T).zF.getD i []).getD (j-(i+1)) []).drop (k+1))/\Fm φ (x.zA.length-(k+1)) ((((exx D x m T).zF.getD i []).getD (j-(i+1)) []).drop (k+1))=(((exx D2 x m2 T2).zF.getD i []).getD (j-(i+1)) []).drop (k+1):=by
 have hn:=hE.hn;have hb:=zAa x.zA.length (by omega) i (by omega);have aX:V (suf x (k+1)) ((lcj x i j).drop (k+1)):=by grind[qZ,zKQ,uC]
 rw[zFA h hE hT hk hi hj,zFA h gN gR hk hi hj];exact⟨by grind[zDe,zDu],by rw[zAs (wY h (by omega) aX),hF.t _ (by omega)]⟩
theorem zYh(h1:k+1<=j)(h2:j<x.zA.length):Fm φ (x.zA.length-(k+1)) (xG ((exx D x m T).zA.length-(k+1)) (j-(k+1)))=xG ((exx D2 x m2 T2).zA.length-(k+1)) (j-(k+1)):=by rw[zRT h hE hT h1 h2,zRT h gN gR h1 h2,zAs (by simp[xG,zeros]),hF.z]
theorem zYi(hk:k<x.zA.length):LCQ (fun k a b=>Fm φ (x.zA.length-k) a=Fm φ (x.zA.length-k) b) x (exx D x m T) k↔LCn x (exx D2 x m2 T2) k:=by
 have hl:=xV h hE hT;have ok:=uF h hE hT (k:=k+1) (by omega);have fX:=zOT h hE hT gN gR hF _ (k+1) (by omega:k+1+(x.zA.length-(k+1))=x.zA.length);have ey:=fun v hv=>zVb h hE hT gN gR hF hk fX (v:=v) hv
 have fS:=zRU h hE hT hk;have e1:∀j,k+1<=j->j<x.zA.length->(c1Q (fun k a b=>Fm φ (x.zA.length-k) a=Fm φ (x.zA.length-k) b) (exx D x m T) k j↔c1E (exx D2 x m2 T2) k j):=fun j h1 h2=>by obtain⟨p1,p2⟩:=yBy h hE hT gN gR hF (k:=k) (j:=j) (by omega) h2;unfold c1Q c1E;show Fm φ _ _=Fm φ _ _↔_;rw[zZP h hE hT gN gR hF hk (zMT h hE hT hk h1 h2),zQW h hE hT gN gR hF h1 h2,ey _ p1,p2,tB h hE hT h2,tB h gN gR h2]
 have e2:∀i j,k+1<=i->i<j->j<x.zA.length->(c2Q (fun k a b=>Fm φ (x.zA.length-k) a=Fm φ (x.zA.length-k) b) (exx D x m T) k i j↔c2E (exx D2 x m2 T2) k i j):=fun i j h1 gI h2=>by obtain⟨p1,p2⟩:=yBz h hE hT gN gR hF (k:=k) (by omega) gI h2;have ci:=zMT h hE hT hk h1 (by omega);have cj:=zMT h hE hT hk (by omega) h2;unfold c2Q c2E;show Fm φ _ _=Fm φ _ _↔_;rw[fX _ _ cj ci,fX _ _ ci (zAr h hE hT hk p1),zQW h hE hT gN gR hF h1 (by omega),zQW h hE hT gN gR hF (by omega) h2,ey _ p1,p2]
 have e3:Fm φ (x.zA.length-(k+1)) (sig (suf (exx D x m T) (k+1)) (lvl (exx D x m T) k) (lvl (exx D x m T) k).w)=Fm φ (x.zA.length-(k+1)) (lvl (exx D x m T) k).w↔sig (suf (exx D2 x m2 T2) (k+1)) (lvl (exx D2 x m2 T2) k) (lvl (exx D2 x m2 T2) k).w=(lvl (exx D2 x m2 T2) k).w:=by rw[ey _ fS,yBx h hE hT gN gR hF hk]
 have e4:∀j,k+1<=j->j<x.zA.length->(c4Q (fun k a b=>Fm φ (x.zA.length-k) a=Fm φ (x.zA.length-k) b) (exx D x m T) k j↔c4E (exx D2 x m2 T2) k j):=fun j h1 h2=>by have hg:=zC5 h hE hT h1 h2;unfold c4Q c4E;show Fm φ _ _=Fm φ _ _↔_;rw[fX _ _ fS (zOS h hE hT hk _ hg),fX _ _ hg fS,zKS h hE hT gN gR hF hk fX _ hg,zYh h hE hT gN gR hF h1 h2,yBx h hE hT gN gR hF hk,zBn h hE hT hk,zBn h gN gR hk]
 constructor
 ·intro g
  exact⟨fun j h1 h2=>(e1 j h1 h2).1 (g.c1 j h1 h2),fun i h1 hi j gI h2=>(e2 i j h1 (by omega) h2).1 (g.c2 i h1 hi j gI h2),e3.1 g.c3,fun j h1 h2=>(e4 j h1 h2).1 (g.c4 j h1 h2)⟩
 ·intro g
  exact⟨fun j h1 h2=>(e1 j h1 h2).2 (g.c1 j h1 h2),fun i h1 hi j gI h2=>(e2 i j h1 (by omega) h2).2 (g.c2 i h1 hi j gI h2),e3.2 g.c3,fun j h1 h2=>(e4 j h1 h2).2 (g.c4 j h1 h2)⟩
theorem zHZ{m0:zE}(hM:Mv D x.zA.length m0 m)(hx:xC (suf x 0))(hr:zF0 x m2 D2):∃L,zLr ⟨x,m0,T⟩=jd L/\L.length<=1000/\(∀r∈L,Row m.Prime D r)/\((∀r∈L,φ r=zeros D2)↔xC (suf (exx D2 x m2 T2) 0)):=by
 have hp:=hE.m.p.pos;have m8:=gN.m.p.pos;obtain⟨L,e,g⟩:=yBp h hE hT hM (Z:=fun r=>φ r=zeros D2) (Q:=fun k a b=>Fm φ (x.zA.length-k) a=Fm φ (x.zA.length-k) b) (fun k hk a b ha hb e=>by
  obtain⟨y,u,rfl,hy,hu,_,eC⟩:=prV h hE hT hk ha;obtain⟨z,v,rfl,hz,hv,_,ch⟩:=prV h hE hT hk hb;rw[Jr eC,Jr ch]at e;subst e;rw[K0 eC,K0 eC,zAs eC,zAs eC,List.append_cancel_left_eq];have ha:=qT (p:=m.Prime) (D:=D) (r:=u) (s:=v) (k:=-1) hE.m.p;have hs:adv m.Prime D (uN m.Prime D u (-1) v) v=u:=by refine Eq.trans (zX (g:=fun j=>at0 u j) fun j hj=>?_) (vE hu.1).symm;have hr:=hu.2 j hj;rw[uN,zW hj,G4,show at0 u j+ -1*at0 v j+at0 v j=at0 u j from by omega,Jp (by omega) (by omega)]
  have hφ:=hF.add _ _ ha hv;rw[hs]at hφ;have hra:=hF.row _ ha;have hrv:=hF.row _ hv;constructor
  ·intro g
   rw[hφ,g,vY hrv]
  ·intro g
   rw[hφ,uS]at g;have:=(zXX (u:=φ v) hra (yX (p:=m.Prime) (D:=D2))).1 (by grind[zAp]);exact this) hx
 refine⟨L,e,g.len,g.row,g.iff.trans ?_⟩
 grind[zQN,zYi]
end
theorem zKT{D:Nat}{f:Nat->Int}:∀B:Nat,S (B*D) f=S B fun q=>S D fun l=>f (q*D+l)
 |0=>by rw[Uy];rfl
 |B+1=>by rw[K8,zG3,zKT B];rfl
def blk(D:Nat)(w:Vec)(q:Nat):Vec:=mkv D fun j=>at0 w (q*D+j)
theorem jL{B q:Nat}(hq:q<B)(hl:l<D):q*D+l<B*D:=by
 have:=Kb D (show q+1<=B by omega)
 grind
theorem zQX{p:Int}{B:Nat}{w:Vec}(hw:Row p (B*D) w){q:Nat}(hq:q<B):Row p D (blk D w q):=
 ⟨zU _ _,fun j hj=>by rw[blk,zW hj];exact hw.2 _ (jL hq hj)⟩
theorem tY{q:Nat}(hl:l<D):(q*D+l)/D=q/\(q*D+l)%D=l:=by grind[Nat.mul_comm,Nat.mul_add_div,Nat.div_eq_of_lt,Nat.mul_add_mod,Nat.mod_eq_of_lt]
def ABk(B D:Nat)(A:Mx):Mx:=gl (B*D) fun i=>mkv (B*D) fun j=>if i/D=j/D then ent A (i%D) (j%D)else 0
theorem zQY{B:Nat}(hi:i<B*D)(hj:j<B*D):ent (ABk B D A) i j=if i/D=j/D then ent A (i%D) (j%D)else 0:=by
 show at0 ((gl (B*D) _).getD i []) j=_
 grind[zW]
theorem zYj{p:Int}{B:Nat}(hp:2<=p)(hD:0<D)(hA:Mat p D A):Mat p (B*D) (ABk B D A):=by
 refine⟨wK,fun i hi=>?_⟩;rw[ABk,xI hi];refine⟨zU _ _,fun j hj=>?_⟩;rw[zW hj];split
 ·exact(hA.2 (i%D) (Hu _ hD)).2 _ (Hu _ hD)
 ·omega
theorem zMV{p:Int}{B:Nat}{u:Vec}{q:Nat}(hq:q<B)(hl:l<D):at0 (xK p (B*D) u (ABk B D A)) (q*D+l)=S D (fun i=>at0 u (q*D+i)*ent A i l)%p:=by
 rw[xK,zW (jL hq hl),zKT]
 congr 1
 rw[kF (k:=q) hq fun i hi gc=>?_]
 ·refine xT fun i hi=>?_
  rw[zQY (jL hq hi) (jL hq hl),(tY hi).1,(tY hi).2,(tY hl).1,(tY hl).2,if_pos rfl]
 ·rw[xT (g:=fun _=>0) fun j hj=>?_,sW]
  rw[zQY (jL hi hj) (jL hq hl),(tY hj).1,(tY hl).1,if_neg gc,Ln]
theorem zYk{p:Int}{B:Nat}{u:Vec}{q:Nat}(hq:q<B):blk D (xK p (B*D) u (ABk B D A)) q=xK p D (blk D u q) A:=by
 refine zX fun l hl=>?_
 grind[zMV,xT,blk,zW]
theorem zMW{B:Nat}{w:Vec}(hw:w.length=B*D){q:Nat}(hq:q<B):(w.drop (q*D)).take D=blk D w q:=by
 have h1:=Kb D (show q+1<=B by omega);rw[K8]at h1;apply Gt
 ·grind[blk,zU]
 grind[blk,mkv]
theorem zVc{B:Nat}{w:Vec}(hw:w.length=B*D){q:Nat}(hq:q<B):w.take (q*D)++blk D w q=w.take ((q+1)*D):=by rw[<-zMW hw hq,K8,List.take_add]
def mBk(B D n:Nat)(m:zE):zE:=⟨m.Prime,((B*D:Nat):Int),(Jd n).map fun k=>ABk B D (m.zL.getD k [])⟩
theorem zKU{B n:Nat}(hk:k<n):(mBk B D n m).zL.getD k []=ABk B D (m.zL.getD k []):=by grind[mBk]
theorem yB0{B n:Nat}(hm:MOk n m D)(h2:B*D<=200:=by omega):zUv n (mBk B D n m) (B*D):=by have h1:=hm.d1;have hp:=hm.p.pos;refine⟨hm.p,h2,by simp[mBk],fun i hi=>?_⟩;rw[zKU hi];exact zYj (by show 2<=m.Prime;omega) (by omega) (hm.mat i hi)
theorem yB1{B n:Nat}(hm:MOk n m D)(h2:B*D<=200:=by omega):Mv (B*D) n m (mBk B D n m):=by
 refine⟨rfl,fun k hk u hu=>?_⟩;have h1:=hm.d1;have h3:=hm.d3;have gT:=hu.1;have hml:=hm.len;have hA:=hm.mat k hk;rw[zKU hk];have hR:(xK m.Prime (B*D) u (ABk B D (m.zL.getD k []))).length=B*D:=by rw[xK,zU]
 unfold zWA;have:=zN (body:=zDx m u (k:Int)) (r:=xK m.Prime (B*D) u (ABk B D (m.zL.getD k []))) (fun i=>((xK m.Prime (B*D) u (ABk B D (m.zL.getD k []))).take (i*D),((i*D:Nat):Int))) B (fun i hi=>by
  have gK:=Kb D (show i+1<=B by omega);rw[K8]at gK;unfold zDx;simp only
  rw[ji,zH,hm.d,zB,bs];have cx:zR u ((i*D:Nat):Int) (((i*D:Nat):Int)+(D:Int))=jd (blk D u i):=by
   unfold zR;rw[if_pos ⟨by omega,by omega,by omega⟩]
   congr 1
   rw[show(((i*D:Nat):Int)+(D:Int)).toNat=i*D+D from by omega,J8,H4];exact zMW gT hi
  rw[cx,bs,yA [],bs,zDH hm.p (by omega) (zQX hu hi) hA,bs,<-zYk (B:=B) hi,zV (by rw[Kd,blk,zU];omega),bs,zVc hR hi,bs,K8];rfl) (by
  unfold zDx;simp only
  rw[jh (by omega),zJ,Jx (by omega)])
 rw[Uy,Kc]at this;rw[show((0:Nat):Int)=0 from rfl]at this;rw[this,bs];rfl
def phi(p:Int)(B D:Nat)(c w:Vec):Vec:=mkv D fun j=>S B (fun q=>at0 c q*at0 w (q*D+j))%p
theorem zYl{p:Int}{B:Nat}{w:Vec}(hp:2<=p):Row p D (phi p B D c w):=⟨zU _ _,fun j hj=>by rw[phi,zW hj];exact⟨Kj _ (by omega),by have:=Kg (S B fun q=>at0 c q*at0 w (q*D+j)) (show 0<p by omega);omega⟩⟩
def Tc(N D:Nat)(c:Vec):Mx:=gl N fun i=>blk D c i
theorem yB2{n B:Nat}{TB:Mx}(hm:MOk n m D)(hN:B=N*D)(hb:base n n=N)(hc:Row m.Prime B c)(ht:∀i,i<N->TB.getD i []=mkv (B*D) fun j=>if j/D=i*D+j%D then 1 else 0):Fh n (B*D) D (mBk B D n m) m TB (Tc N D c) (phi m.Prime B D c):=by
 have hp:=hm.p.pos;have h1:=hm.d1;refine⟨rfl,fun u _=>zYl (by show 2<=m.Prime;omega),?_,fun u v hu hv=>?_,fun k hk u hu=>?_,fun r hr=>?_⟩
 ·rw[show zeros D=mkv D fun _=>0 from uB D]
  refine zX fun j hj=>?_
  rw[xT (g:=fun _=>0) fun q hq=>by rw[wH,Ln],sW];simp
 ·refine zX fun j hj=>?_
  rw[phi,phi,zW hj,zW hj];show _%m.Prime=(_%m.Prime+_%m.Prime)%m.Prime;rw[<-Ka,<-zCw];refine kE fun q hq=>?_
  rw[zW (jL hq hj),<-Jak];show(at0 c q*((at0 u (q*D+j)+at0 v (q*D+j))%m.Prime))%m.Prime=_
  grind[Jy,K3]
 ·rw[zKU hk]
  refine zX fun j hj=>?_
  show S B (fun q=>at0 c q*at0 (xK m.Prime (B*D) u (ABk B D (m.zL.getD k []))) (q*D+j))%m.Prime=S D (fun l=>at0 (phi m.Prime B D c u) l*ent (m.zL.getD k []) l j)%m.Prime;rw[kE (g:=fun q=>at0 c q*S D (fun i=>at0 u (q*D+i)*ent (m.zL.getD k []) i j)) (by grind[zMV,Jy,K3])];rw[kE (f:=fun l=>at0 (phi m.Prime B D c u) l*ent (m.zL.getD k []) l j) (g:=fun l=>S B (fun q=>at0 c q*at0 u (q*D+l))*ent (m.zL.getD k []) l j) (by grind[phi,zW,Jy,K3])]
  congr 1
  rw[xT (g:=fun q=>S D (fun i=>at0 c q*(at0 u (q*D+i)*ent (m.zL.getD k []) i j))) (by grind[zCx]),zH6];refine xT fun l hl=>?_
  rw[<-zMx]
  grind
 ·rw[hb]at hr
  rw[ht r hr,Tc,xI hr];refine zX fun j hj=>?_
  have gK:r*D+j<B:=by rw[hN];exact jL hr hj
  rw[kF (k:=r*D+j) gK fun q hq gc=>?_]
  ·rw[zW (jL gK hj),(tY hj).1,(tY hj).2,if_pos rfl,L6]
   have:=hc.2 _ gK;exact Jp this.1 (by omega)
  ·rw[zW (jL hq hj),(tY hj).1,(tY hj).2,if_neg gc,Ln]
def uT(N D:Nat):Mx:=gl N fun i=>mkv (N*D*D) fun j=>if j/D=i*D+j%D then 1 else 0
section
variable {x:SPr}{m:zE}{D:Nat} (hx:zA2 x) (hD:MOk x.zA.length m D)
 include hx hD
theorem zOU{D2:Nat}{m2:zE}{T:Mx}(hm:zUv x.zA.length m2 D2)(ht:T.length=base x.zA.length x.zA.length):ExB x.zA.length D2 x m2 T:=by have _:=hD;refine⟨hx.n6,rfl,hx.pl,hx.cl,fun i hi=>?_,ht,hm⟩;have:=(hx.tl i hi).2.1;omega
theorem zMX(hy:Row m.Prime (base x.zA.length x.zA.length*D) y):ExB x.zA.length D x m (Tc (base x.zA.length x.zA.length) D y)/\ ∀i,i<(Tc (base x.zA.length x.zA.length) D y).length->Row m.Prime D ((Tc (base x.zA.length x.zA.length) D y).getD i []):=by
 refine⟨zOU hx hD hD.b wK,fun i hi=>?_⟩
 grind[Tc,zQX]
theorem zVd(h0:0<x.zA.length)(hc:xC (suf x 0))(hr:zF0 x m D):∃L,zLr ⟨x,m,uT (base x.zA.length x.zA.length) D⟩=jd L/\L.length<=1000/\(∀r∈L,Row m.Prime (base x.zA.length x.zA.length*D*D) r)/\
  ∀y,Row m.Prime (base x.zA.length x.zA.length*D) y->((∀r∈L,phi m.Prime (base x.zA.length x.zA.length*D) D y r=zeros D)↔xC (suf (exx D x m (Tc (base x.zA.length x.zA.length) D y)) 0)):=by
 have h6:=hx.n6;have hb:=xY x.zA.length (by omega);have h1:=hD.d1;have h3:=hD.d3;have hp:=hD.p.pos;have hB:base x.zA.length x.zA.length*D<=21*3:=Jq hb.2.1 h3;have hBD:base x.zA.length x.zA.length*D*D<=63*3:=Jq (by omega) h3;have hE:=zOU hx hD (T:=uT (base x.zA.length x.zA.length) D) (yB0 (B:=base x.zA.length x.zA.length*D) hD) wK;have hT:∀i,i<(uT (base x.zA.length x.zA.length) D).length->Row (mBk (base x.zA.length x.zA.length*D) D x.zA.length m).Prime (base x.zA.length x.zA.length*D*D) ((uT (base x.zA.length x.zA.length) D).getD i []):=fun i hi=>by rw[uT,wK]at hi;rw[uT,xI hi];refine⟨zU _ _,fun j hj=>?_⟩;rw[zW hj];show _/\_<=m.Prime-1;omega
 have hM:=yB1 (B:=base x.zA.length x.zA.length*D) hD;have key:∀y,Row m.Prime (base x.zA.length x.zA.length*D) y-> ∃L,zLr ⟨x,m,uT (base x.zA.length x.zA.length) D⟩=jd L/\L.length<=1000/\(∀r∈L,Row m.Prime (base x.zA.length x.zA.length*D*D) r)/\((∀r∈L,phi m.Prime (base x.zA.length x.zA.length*D) D y r=zeros D)↔xC (suf (exx D x m (Tc (base x.zA.length x.zA.length) D y)) 0)):=fun y hy=>by obtain⟨e1,e2⟩:=zMX hx hD hy;exact zHZ hx.toPres hE hT e1 e2 (yB2 hD rfl rfl hy (by grind[uT])) hM hc hr
 obtain⟨L,l1,l2,l3,_⟩:=key (zeros (base x.zA.length x.zA.length*D)) (yX)
 grind
end
def zEK(D k:Nat)(L:Mx):List Int:=(L.map fun r=>blk D r k).flatten
theorem zMY{D k:Nat}:∀L:Mx,(zEK D k L).length=L.length*D
 | []=>by rw[zEK];simp
 |r::L=>by
  have ih:=zMY (D:=D) (k:=k) L
  grind[zEK,blk,zU]
theorem zKV{D k:Nat}:∀(L:Mx)(i j:Nat),i<L.length->j<D->at0 (zEK D k L) (i*D+j)=at0 (L.getD i []) (k*D+j)
 | [],i,j,hi,_=>by simp at hi
 |r::L,i,j,hi,hj=>by
  have hl:(blk D r k).length=D:=zU _ _;simp only[zEK,Ju,Hr];cases i with
  |zero=>
   rw[Uy,Ji,Gp,at0,J2,K1 (by omega),<-J2];show at0 (blk D r k) j=_;rw[blk,zW hj]
  |succ i=>
   have ih:=zKV (D:=D) (k:=k) L i j (by grind) hj;simp only[zEK]at ih
   grind
theorem zVe{p:Int}{B:Nat}{L:Mx}:(∀c,c<L.length*D->(S B fun k=>at0 y k*ent (gl B fun k=>zEK D k L) k c)%p=0)↔ ∀r∈L,phi p B D y r=zeros D:=by
 have e:∀i j,i<L.length->j<D->(S B fun k=>at0 y k*ent (gl B fun k=>zEK D k L) k (i*D+j))%p=at0 (phi p B D y (L.getD i [])) j:=fun i j hi hj=>by
  rw[phi,zW hj]
  congr 1
  refine xT fun k hk=>?_
  show at0 y k*at0 ((gl B fun k=>zEK D k L).getD k []) (i*D+j)=_
  grind[zKV]
 constructor
 ·intro g r hr
  obtain⟨i,hi,rfl⟩:=H3.1 hr;rw[show zeros D=mkv D fun _=>0 from uB D,vE (D:=D) (v:=phi p B D y L[i]) (zU _ _)];refine zX fun j hj=>?_
  have:=e i j hi hj;rw[J2,J3 hi]at this;rw[<-g _ (jL hi hj),this];rfl
 ·intro g c hc
  have hD:0<D:=by grind
  have hi:c/D<L.length:=(H7 hD).2 hc;have hj:c%D<D:=Hu _ hD;rw[show c=c/D*D+c%D from by grind[Lw],e _ _ hi hj,g _ (by rw[J2,J3 hi];exact Js hi),wH]
def zAN(p:Int)(D:Nat)(m:zE):List (Nat×List Nat)->Nat->Nat->Nat->Int
 | [],_,_,_=>0
 |(q,s)::t,r,i,j=>(if q=r then ent (wM p D m.zL s (idM D)) i j else 0)+zAN p D m t r i j
section
variable {p:Int}{D N:Nat}{m:zE}{y:Vec}
theorem zVf{j:Nat}(hj:j<D):∀t:List (Nat×List Nat),(∀q∈t,q.1<N)->at0 (tv p D m (Tc N D y) t) j=(S N fun r=>S D fun i=>at0 y (r*D+i)*zAN p D m t r i j)%p
 | [],_=>by
  show at0 (zeros D) j=_;rw[wH,xT (g:=fun _=>0) fun r _=>by rw[xT (g:=fun _=>0) fun i _=>by rw[zAN,Ln],sW],sW]
  rfl
 |(q,s)::t,h=>by
  have hq:q<N:=h (q,s) (by simp);have ih:=zVf hj t (by grind);show at0 (adv p D (xK p D ((Tc N D y).getD q []) (wM p D m.zL s (idM D))) (tv p D m (Tc N D y) t)) j=_;rw[show adv p D=fun u v=>mkv D fun j=>(at0 u j+at0 v j)%p from rfl];show at0 (mkv D _) j=_;rw[zW hj,ih,xK,zW hj,<-Ka]
  congr 1
  have e:(S N fun r=>S D fun i=>at0 y (r*D+i)*zAN p D m ((q,s)::t) r i j)=
    (S N fun r=>S D fun i=>at0 y (r*D+i)*(if q=r then ent (wM p D m.zL s (idM D)) i j else 0))+S N fun r=>S D fun i=>at0 y (r*D+i)*zAN p D m t r i j:=by
   rw[<-zCw];refine xT fun r _=>?_
   rw[<-zCw]
   grind[zAN]
  rw[e]
  congr 1
  rw[kF (k:=q) hq fun r _ hr=>by rw[xT (g:=fun _=>0) (by grind),sW]]
  refine xT fun l hl=>?_
  rw[if_pos rfl,Tc,xI hq,blk,zW hl]
end
def prR(p:Int)(D:Nat)(m:zE)(t1 t2:List (Nat×List Nat))(k:Nat):List Int:=mkv D fun j=>(zAN p D m t1 (k/D) (k%D) j-zAN p D m t2 (k/D) (k%D) j)%p
section
variable {p:Int}{D N:Nat}{m:zE}{y:Vec}
theorem zQZ(hp:2<=p){t1 t2:List (Nat×List Nat)}(h1:∀q∈t1,q.1<N)(h2:∀q∈t2,q.1<N):
  (∀j,j<D->(S (N*D) fun k=>at0 y k*at0 (prR p D m t1 t2 k) j)%p=0)↔tv p D m (Tc N D y) t1=tv p D m (Tc N D y) t2:=by
 have e:∀j,j<D->(S (N*D) fun k=>at0 y k*at0 (prR p D m t1 t2 k) j)%p=(at0 (tv p D m (Tc N D y) t1) j-at0 (tv p D m (Tc N D y) t2) j)%p:=fun j hj=>by
  rw[zVf hj t1 h1,zVf hj t2 h2,<-Qe,zKT];have e1:((S N fun r=>S D fun i=>at0 y (r*D+i)*zAN p D m t1 r i j)-S N fun r=>S D fun i=>at0 y (r*D+i)*zAN p D m t2 r i j)=S N fun r=>S D fun i=>at0 y (r*D+i)*(zAN p D m t1 r i j-zAN p D m t2 r i j):=by
   have:(S N fun r=>S D fun i=>at0 y (r*D+i)*zAN p D m t1 r i j)=(S N fun r=>S D fun i=>at0 y (r*D+i)*(zAN p D m t1 r i j-zAN p D m t2 r i j))+S N fun r=>S D fun i=>at0 y (r*D+i)*zAN p D m t2 r i j:=by
    rw[<-zCw];refine xT fun r _=>?_
    rw[<-zCw]
    grind
   omega
  rw[e1];refine kE fun r _=>kE fun i hi=>?_
  grind[tY,prR,zW,Jy,K3]
 constructor
 ·intro g
  have r1:=zKN (D:=D) (m:=m) (T:=Tc N D y) hp t1;have r2:=zKN (D:=D) (m:=m) (T:=Tc N D y) hp t2;rw[vE r1.1,vE r2.1];refine zX fun j hj=>?_
  have k:=e j hj;rw[g j hj]at k;have b1:=r1.2 j hj;have b2:=r2.2 j hj;have:=Int.emod_emod_of_dvd (at0 (tv p D m (Tc N D y) t1) j-at0 (tv p D m (Tc N D y) t2) j) (Int.dvd_refl p);have iO:p∣at0 (tv p D m (Tc N D y) t1) j-at0 (tv p D m (Tc N D y) t2) j:=by omega
  obtain⟨c,hc⟩:=iO;have:c=0:=by
   rcases Int.lt_trichotomy c 0 with gC|h0|hgt
   ·have:p*c<=p*(-1):=Q7 (by omega) (by omega)
    omega
   ·exact h0
   ·have:p*1<=p*c:=Q7 (by omega) (by omega)
    omega
  grind
 simp_all
end
abbrev Trc:=List (Nat×List Nat)
variable {t1 t2:Trc}{prs:List (Trc×Trc)}
structure PD where
 k:Nat
 wd:List Nat
 t:Nat
 r1:Nat
 s1:List Nat
 w1:List Nat
 r2:Nat
 s2:List Nat
 w2:List Nat
section
variable (x:SPr)
abbrev PD.B(d:PD)(t1 t2:Trc):Prop:=zKR x d.k d.r1 d.s1 d.w1 d.r2 d.s2 d.w2 t1 t2
def ups(n i:Nat):List Nat:=K7 (i+1) (n-(i+1))
def pd2(i j k:Nat):PD:=⟨i,[k,j,i],1,base x.zA.length j+(k-(j+1)),[i],j::(nw 0 (lcj x j k)++[i]),base x.zA.length i+(j-(i+1)),[],k::i::nw 0 (lcj x i j)⟩
def pd1(i j:Nat):PD:=⟨i,J1 (yC x j) j++[i],yC x j-1,j,[i],nw 0 (x.zP.getD j [])++[i],base x.zA.length i+(j-(i+1)),[],J1 (yC x j-1) j++i::nw 0 (lcj x i j)⟩
def pd4(i j:Nat):PD:=⟨i,j::J1 (yC x i) i,1,base x.zA.length i+(j-(i+1)),J1 (yC x i-1) i,i::(nw 0 (lcj x i j)++J1 (yC x i-1) i),i,[],j::nw 0 (x.zP.getD i [])⟩
def pd3(i:Nat):PD:=⟨i,J1 (yC x i+1) i,1,i,[i],nw 0 (x.zP.getD i [])++[i],i,[],i::nw 0 (x.zP.getD i [])⟩
def cps:List PD:=
 ((Jd x.zA.length).flatMap fun i=>(ups x.zA.length i).flatMap fun j=>(ups x.zA.length j).map fun k=>pd2 x i j k)++
 (((Jd x.zA.length).flatMap fun i=>(ups x.zA.length i).map fun j=>pd1 x i j)++
 (((Jd x.zA.length).flatMap fun i=>(ups x.zA.length i).map fun j=>pd4 x i j)++
 (Jd x.zA.length).map fun i=>pd3 x i))
end
theorem zEL{n:Nat}:j∈ups n i↔i<j/\j<n:=by grind[ups]
section
variable {x:SPr}
theorem zAA{φ:PD->Prop}:(∀d∈cps x,φ d)↔(∀i j k,i<j->j<k->k<x.zA.length->φ (pd2 x i j k))/\(∀i j,i<j->j<x.zA.length->φ (pd1 x i j))/\(∀i j,i<j->j<x.zA.length->φ (pd4 x i j))/\ ∀i,i<x.zA.length->φ (pd3 x i):=by
 constructor
 ·intro g
  refine⟨fun i j k h1 h2 h3=>g _ ?_,fun i j h1 h2=>g _ ?_,fun i j h1 h2=>g _ ?_,fun i h1=>g _ ?_⟩
  ·exact U4 _ (Li.2 ⟨i,by grind,Li.2 ⟨j,by grind[zEL],Jc.2 ⟨k,zEL.2 ⟨h2,h3⟩,rfl⟩⟩⟩)
  ·exact Hp _ (U4 _ (Li.2 ⟨i,by grind,Jc.2 ⟨j,zEL.2 ⟨h1,h2⟩,rfl⟩⟩))
  ·exact Hp _ (Hp _ (U4 _ (Li.2 ⟨i,by grind,Jc.2 ⟨j,zEL.2 ⟨h1,h2⟩,rfl⟩⟩)))
  ·exact Hp _ (by grind)
 ·rintro⟨g2,g1,g4,g3⟩ d hd
  simp only[cps,Ja,Li,Jc,Lh,zEL]at hd
  grind
theorem zRW{T:Mx}:zZO x D m T↔ ∀d∈cps x,∀t1 t2,d.B x t1 t2->tv m.Prime D m T t1=tv m.Prime D m T t2:=by
 rw[zAA (φ:=fun d=> ∀t1 t2,d.B x t1 t2->tv m.Prime D m T t1=tv m.Prime D m T t2)];constructor
 ·intro g
  exact⟨fun i j k h1 h2 h3=>g.p2 i j k h1 h2 h3,fun i j h1 h2=>g.p1 i j h1 h2,fun i j h1 h2=>g.p4 i j h1 h2,fun i h1=>g.p3 i h1⟩
 ·rintro⟨g2,g1,g4,g3⟩
  exact⟨fun k j h1 h2=>g1 k j h1 h2,fun k i j h1 h2 h3=>g2 k i j h1 h2 h3,fun k hk=>g3 k hk,fun k j h1 h2=>g4 k j h1 h2⟩
theorem zZQ(h6:x.zA.length<=6){w:List Nat}(hw:∀a∈w,a<x.zA.length)(h:hdS x w=jd r):r.1<base x.zA.length x.zA.length:=by
 unfold hdS at h;have hb:=xY x.zA.length (by omega)
 match w,h with
 | [],h=>cases h
 | [a],h=>
  grind[swp,pws]
 |a::b::w,h=>
  have ha:=hw a (by simp);simp only[swp]at h
  by_cases g:b<a
  ·rw[if_pos g]at h
   cases h;have:=zAa x.zA.length (by omega) b (by omega);omega
  ·rw[if_neg g]at h
   grind[pws]
theorem zZR(h6:x.zA.length<=6):∀{w:List Nat}{r:zC3},(∀a∈w,a<x.zA.length)->stS x w=jd r->r.1<base x.zA.length x.zA.length
 | [],_,_,h=>by cases h
 |a::w,r,hw,h=>by
  simp only[stS]at h;cases e:hdS x (a::w)with
  |some q=>
   rw[e]at h;cases h;exact zZQ h6 hw e
  |none=>
   rw[e]at h;cases e2:stS x w with
   |none=>grind
   |some q=>
    rw[e2]at h;cases h;have:=zZR (w:=w) (r:=q) h6 (by grind) e2;exact this
theorem Col.lt(h6:x.zA.length<=6){w:List Nat}{tr:Trc}(hc:Col x k w tr w'):∀q∈tr,q.1<base x.zA.length x.zA.length:=by
 induction hc with
 |refl w=>simp
 |step hw hs _ ih=>
  intro q hq;rcases J9.1 hq with rfl|hq
  ·exact zZR h6 (by grind) hs
  grind
end
section
variable {x:SPr} (h:Pres x) (h6:x.zA.length<=6)
 include h
theorem zMZ{d:PD}{u1 u2:Trc}(hk:d.k<=x.zA.length)(a:d.B x t1 t2)(b:d.B x u1 u2):t1=u1/\t2=u2:=by
 obtain⟨⟨v1,y1,rfl,k1⟩,⟨v2,y2,rfl,k2⟩⟩:=a;obtain⟨⟨v3,y3,rfl,k3⟩,⟨v4,y4,rfl,k4⟩⟩:=b;have nn:=fun(y:Vec)(hy:V (suf x d.k) y)=>zFD h (x.zA.length-d.k) d.k (by omega) y hy
 exact⟨by rw[(Col.det k1.col k3.col (nn _ k1.v) (nn _ k3.v)).1],by rw[(Col.det k2.col k4.col (nn _ k2.v) (nn _ k4.v)).1]⟩
 include h6
theorem zGA:∀d∈cps x,d.k<x.zA.length/\(∀a∈d.wd,a<x.zA.length)/\ ∃t1 t2,d.B x t1 t2/\(∀q∈t1,q.1<base x.zA.length x.zA.length)/\ ∀q∈t2,q.1<base x.zA.length x.zA.length:=by
 have fu:∀i j,i<j->j<x.zA.length-> ∀a∈nw 0 (lcj x i j),i+1<=a/\a<x.zA.length:=fun i j hi hj=>(uW h (uC h hi hj) (by omega)).2
 have fE:∀i,i<x.zA.length-> ∀a∈nw 0 (x.zP.getD i []),i+1<=a/\a<x.zA.length:=fun i hi=>(uW h (sQ h hi) hi).2
 have fx:=xY x.zA.length (by omega);have fw:=fun i(hi:i<x.zA.length)=>zAa x.zA.length (by omega) i hi
 have key:∀(d:PD),d.k<x.zA.length->(∀a∈d.wd,a<x.zA.length)->d.r1<base x.zA.length x.zA.length->d.r2<base x.zA.length x.zA.length->(∀a∈d.w1,d.k<=a/\a<x.zA.length)->(∀a∈d.w2,d.k<=a/\a<x.zA.length)->d.k<x.zA.length/\(∀a∈d.wd,a<x.zA.length)/\ ∃t1 t2,d.B x t1 t2/\(∀q∈t1,q.1<base x.zA.length x.zA.length)/\ ∀q∈t2,q.1<base x.zA.length x.zA.length:=by
  intro d hk mT b1 b2 c1 c2;obtain⟨u1,y1,k1⟩:=zYg h (x.zA.length-d.k) d.k (by omega) d.w1 c1;obtain⟨u2,y2,k2⟩:=zYg h (x.zA.length-d.k) d.k (by omega) d.w2 c2;refine⟨hk,mT,_,_,⟨⟨u1,y1,rfl,k1⟩,⟨u2,y2,rfl,k2⟩⟩,fun q hq=>?_,fun q hq=>?_⟩
  ·rcases J9.1 hq with rfl|hq
   ·exact b1
   ·exact k1.col.lt h6 q hq
  ·rcases J9.1 hq with rfl|hq
   ·exact b2
   ·exact k2.col.lt h6 q hq
 refine zAA.2 ⟨fun i j k h1 h2 h3=>key _ ?_ ?_ ?_ ?_ ?_ ?_,fun i j h1 h2=>key _ ?_ ?_ ?_ ?_ ?_ ?_,fun i j h1 h2=>key _ ?_ ?_ ?_ ?_ ?_ ?_,fun i h1=>key _ ?_ ?_ ?_ ?_ ?_ ?_⟩
 ·show i<_;omega
 ·intro a ha
  simp only[pd2,J9,G9,or_false]at ha;omega
 ·have:=fw j (by omega);show base _ j+(k-(j+1))<_;omega
 ·have:=fw i (by omega);show base _ i+(j-(i+1))<_;omega
 ·intro a ha
  simp only[pd2,J9,Ja,G9,or_false]at ha ⊢
  rcases ha with rfl|ha|rfl
  ·omega
  ·grind
  ·omega
 ·intro a ha
  simp only[pd2,J9]at ha ⊢
  rcases ha with rfl|rfl|ha
  ·omega
  ·omega
  grind
 ·show i<_;omega
 ·intro a ha
  simp only[pd1,Ja,List.mem_singleton]at ha;rcases ha with ha|rfl
  ·grind
  ·omega
 ·show j<_;omega
 ·have:=fw i (by omega);show base _ i+(j-(i+1))<_;omega
 ·intro a ha
  simp only[pd1,Ja,List.mem_singleton]at ha ⊢
  rcases ha with ha|rfl
  ·grind
  ·omega
 ·intro a ha
  simp only[pd1,Ja,J9]at ha ⊢
  rcases ha with ha|rfl|ha
  ·grind
  ·omega
  grind
 ·show i<_;omega
 ·intro a ha
  simp only[pd4,J9]at ha;rcases ha with rfl|ha
  ·omega
  grind
 ·have:=fw i (by omega);show base _ i+(j-(i+1))<_;omega
 ·show i<_;omega
 ·intro a ha
  simp only[pd4,J9,Ja]at ha ⊢
  rcases ha with rfl|ha|ha
  ·omega
  ·grind
  grind
 ·intro a ha
  simp only[pd4,J9]at ha ⊢
  rcases ha with rfl|ha
  ·omega
  grind
 ·exact h1
 ·intro a ha
  have:=H1 (show a∈J1 _ i from ha);omega
 ·show i<_;omega
 ·show i<_;omega
 ·intro a ha
  simp only[pd3,Ja,List.mem_singleton]at ha ⊢
  rcases ha with ha|rfl
  ·grind
  ·omega
 ·intro a ha
  simp only[pd3,J9]at ha ⊢
  rcases ha with rfl|ha
  ·omega
  grind
end
theorem zFE{α:Type}{F:α->Vec}{D:Nat}(hF:∀a,(F a).length=D):∀L:List α,((L.map F).flatten).length=L.length*D
 | []=>by simp
 |a::L=>by rw[Ju,Hr,J5,hF,zFE hF L,J7,K8];omega
theorem zEM{α:Type}{F:α->Vec}{D:Nat}(hF:∀a,(F a).length=D):∀(L:List α)(i j:Nat)(hi:i<L.length),j<D->at0 ((L.map F).flatten) (i*D+j)=at0 (F L[i]) j
 | [],i,j,hi,_=>by simp at hi
 |a::L,i,j,hi,hj=>by
  have hl:=hF a;rw[Ju,Hr];cases i with
  |zero=>
   grind
  |succ i=>
   have ih:=zEM hF L i j (by grind) hj
   grind
def kO(p:Int)(D:Nat)(m:zE)(prs:List (Trc×Trc))(k:Nat):List Int:=(prs.map fun q=>prR p D m q.1 q.2 k).flatten
theorem zIa{p:Int}(prs:List (Trc×Trc)):(kO p D m prs k).length=prs.length*D:=zFE (F:=fun q:Trc×Trc=>prR p D m q.1 q.2 k) (fun _=>zU _ _) prs
theorem zVg{p:Int}(hp:2<=p)(hl:∀q∈prs,(∀r∈q.1,r.1<N)/\ ∀r∈q.2,r.1<N):
  (∀c,c<prs.length*D->(S (N*D) fun k=>at0 y k*ent (gl (N*D) fun k=>kO p D m prs k) k c)%p=0)↔ ∀q∈prs,tv p D m (Tc N D y) q.1=tv p D m (Tc N D y) q.2:=by
 have e:∀i j(hi:i<prs.length),j<D->(S (N*D) fun k=>at0 y k*ent (gl (N*D) fun k=>kO p D m prs k) k (i*D+j))=S (N*D) fun k=>at0 y k*at0 (prR p D m prs[i].1 prs[i].2 k) j:=fun i j hi hj=>by
  refine xT fun k hk=>?_
  show at0 y k*at0 ((gl (N*D) fun k=>kO p D m prs k).getD k []) (i*D+j)=_
  grind[kO,zEM,prR,zU]
 constructor
 ·intro g q hq
  obtain⟨i,hi,rfl⟩:=H3.1 hq;refine(zQZ hp (hl _ hq).1 (hl _ hq).2).1 fun j hj=>?_
  rw[<-e i j hi hj];exact g _ (jL hi hj)
 ·intro g c hc
  have hD:0<D:=by grind
  have hi:c/D<prs.length:=(H7 hD).2 hc;have hj:c%D<D:=Hu _ hD;have hm:=Js hi;rw[show c=c/D*D+c%D from by grind[Lw],e _ _ hi hj];exact(zQZ hp (hl _ hm).1 (hl _ hm).2).2 (g _ hm) _ hj
def sZ(x:SPr):List PD->List (Trc×Trc)->Prop
 | [],[]=>True
 |d::ds,q::qs=>d.B x q.1 q.2/\sZ x ds qs
 |_,_=>False
theorem sZ.len{x:SPr}:{ds:List PD}->{qs:List (Trc×Trc)}->sZ x ds qs->ds.length=qs.length
 | [],[],_=>rfl
 |d::ds,q::qs,h=>by rw[J7,J7,sZ.len h.2]
 | [],_::_,h=>by simp[sZ]at h
 |_::_,[],h=>by simp[sZ]at h
theorem sZ.all{x:SPr}{φ:Trc×Trc->Prop}:{ds:List PD}->{qs:List (Trc×Trc)}->sZ x ds qs->(∀d∈ds,∀t1 t2,d.B x t1 t2->φ (t1,t2))-> ∀q∈qs,φ q
 | [],[],_,_,q,hq=>by cases hq
 |d::ds,q::qs,h,g,r,hr=>by
  rcases J9.1 hr with rfl|hr
  ·exact g d (by simp) _ _ h.1
  ·exact sZ.all h.2 (by grind) r hr
 | [],_::_,h,_,_,_=>by simp[sZ]at h
 |_::_,[],h,_,_,_=>by grind
theorem sZ.of{x:SPr}{φ:Trc×Trc->Prop}:{ds:List PD}->{qs:List (Trc×Trc)}->sZ x ds qs->(∀q∈qs,φ q)-> ∀d∈ds,∃t1 t2,d.B x t1 t2/\φ (t1,t2)
 | [],[],_,_,d,hd=>by cases hd
 |d::ds,q::qs,h,g,r,hr=>by
  rcases J9.1 hr with rfl|hr
  ·exact⟨q.1,q.2,h.1,g q (by simp)⟩
  ·exact sZ.of h.2 (by grind) r hr
 | [],_::_,h,_,_,_=>by grind
 |_::_,[],h,_,_,_=>by simp[sZ]at h
section
variable {x:SPr}{m:zE}{D:Nat} (hx:zA2 x) (hD:MOk x.zA.length m D)
 include hx hD
theorem zVh(hq:sZ x (cps x) prs)(hc:xC (suf x 0))(hr:zF0 x m D)(hy:Row m.Prime (base x.zA.length x.zA.length*D) y):
  (∀c,c<prs.length*D->(S (base x.zA.length x.zA.length*D) fun k=>at0 y k*ent (gl (base x.zA.length x.zA.length*D) fun k=>kO m.Prime D m prs k) k c)%m.Prime=0)↔xC (suf (exx D x m (Tc (base x.zA.length x.zA.length) D y)) 0):=by
 have hp:=hD.p.pos;have pe:=zGA hx.toPres hx.n6;have gC:∀q∈prs,(∀r∈q.1,r.1<base x.zA.length x.zA.length)/\ ∀r∈q.2,r.1<base x.zA.length x.zA.length:=hq.all fun d hd t1 t2 hb=>by
  obtain⟨hk,_,u1,u2,ca,l1,l2⟩:=pe d hd;obtain⟨rfl,rfl⟩:=zMZ hx.toPres (by omega) hb ca
  grind
 obtain⟨e1,e2⟩:=zMX hx hD hy;rw[zVg (by omega) gC,<-zJA hx.toPres e1 e2 hc hr,zRW];constructor
 ·intro g d hd t1 t2 hb
  obtain⟨u1,u2,ca,e⟩:=hq.of (φ:=fun q=>tv m.Prime D m (Tc (base x.zA.length x.zA.length) D y) q.1=tv m.Prime D m (Tc (base x.zA.length x.zA.length) D y) q.2) g d hd;obtain⟨rfl,rfl⟩:=zMZ hx.toPres (by grind) hb ca;exact e
 ·intro g
  exact hq.all (by omega)
theorem yB3:∃prs,sZ x (cps x) prs:=by
 have _:=hD;have pe:=zGA hx.toPres hx.n6
 revert pe
 generalize cps x=ds
 intro pe
 induction ds with
 |nil=>exact⟨[],trivial⟩
 |cons d ds ih=>
  obtain⟨qs,hq⟩:=ih (by grind);obtain⟨_,_,t1,t2,hb,_⟩:=pe d (by simp);exact⟨(t1,t2)::qs,hb,hq⟩
end
section
variable {x:SPr}{m:zE}{D:Nat} (hD:MOk x.zA.length m D)
 include hD
theorem zRX(hi:i<N)(hN:N<=21){T:Mx}:zG (zS6 m (T,(i:Int))) (J1 (N*D*D) (0:Int),0)=jd (mkv (N*D*D) fun j=>if j/D=i*D+j%D then 1 else 0):=by
 have h1:=hD.d1;have h3:=hD.d3;have j9:N*D<=21*3:=Jq hN h3;have hB:N*D*D<=63*3:=Jq j9 h3;have:=zN (body:=zS6 m (T,(i:Int))) (r:=mkv (N*D*D) fun j=>if j/D=i*D+j%D then(1:Int)else 0)
  (fun c=>(mkv (N*D*D) fun j=>if j/D=i*D+j%D/\j%D<c then(1:Int)else 0,(c:Int))) D (fun c hc=>by
  unfold zS6;simp only
  have a1:i*D+D<=N*D:=by rw[<-K8];exact Kb _ hi
  have a2:(i*D+c)*D+D<=N*D*D:=by rw[<-K8];exact Kb _ (by omega)
  have b1:(i:Int)*(D:Int)=((i*D:Nat):Int):=by rfl
  have b2:((i*D+c:Nat):Int)*(D:Int)=(((i*D+c)*D:Nat):Int):=by rfl
  have b3:((i*D:Nat):Int)+(c:Int)=((i*D+c:Nat):Int):=by omega
  have b4:(((i*D+c)*D:Nat):Int)+(c:Int)=(((i*D+c)*D+c:Nat):Int):=by omega
  rw[hD.d,yS hc,zH,b1,zB,bs,b3,zB,bs,b2,zB,bs,b4,zB,bs,yA 0 (by grind[zU]),bs,zB,bs,J8,sO,cs]
  congr 3
  refine zX fun j hj=>?_
  have pJ:=Lw j D
  by_cases g:j=(i*D+c)*D+c
  ·have e:=tY (q:=i*D+c) hc
   grind
  grind) (by
  unfold zS6;simp only
  rw[hD.d,tQ,zJ]
  congr 2
  refine zX fun j _=>?_
  have:=Hu j (show 0<D by omega);omega)
 rw[show(mkv (N*D*D) fun j=>if j/D=i*D+j%D/\j%D<0 then(1:Int)else 0)=J1 (N*D*D) 0 from by rw[show J1 (N*D*D) (0:Int)=mkv (N*D*D) fun _=>0 from uB _];simp]at this
 exact this
theorem zIb(hN:N<=21):zG (zS7 m (N:Int) ((N*D:Nat):Int)) ([],0)=jd (uT N D):=by
 have h1:=hD.d1;have h3:=hD.d3;have j9:N*D<=21*3:=Jq hN h3;have hB:N*D*D<=63*3:=Jq j9 h3;refine wG N (fun i=>mkv (N*D*D) fun j=>if j/D=i*D+j%D then(1:Int)else 0) (fun i acc hi ha=>?_) (fun acc=>?_)
 ·unfold zS7
  simp only
  have b1:((N*D:Nat):Int)*(D:Int)=((N*D*D:Nat):Int):=by rfl
  rw[hD.d,yS hi,zH,b1,zB,bs,yH,bs,zRX hD hi hN,bs,zV (by simp;omega),bs,zB,bs,cs]
 ·unfold zS7
  simp
theorem zJB{B:Nat}(hB:B<=63){L:Mx}(hL:L.length<=1000)(hr:∀r∈L,r.length=B*D):zG (zWL m ((B:Nat):Int) L) ([],0)=jd (gl B fun k=>zEK D k L):=by
 have h1:=hD.d1;have h3:=hD.d3;have hLD:L.length*D<=1000*3:=Jq hL h3;have hBD:B*D<=63*3:=Jq hB h3;refine wG B (fun k=>zEK D k L) (fun k acc hk ha=>?_) (fun acc=>?_)
 ·unfold zWL
  simp only
  have a1:k*D+D<=B*D:=by rw[<-K8];exact Kb _ hk
  have inner:zG (zS8 m L (acc,(k:Int))) ([],0)=jd (zEK D k L):=by
   have:=zU5 (body:=zS8 m L (acc,(k:Int))) L.length D (fun i=>blk D (L.getD i []) k) [] (fun i hi=>zU _ _) (fun i acc2 hi ha2=>by
    unfold zS8;simp only
    have b0:i*D+D<=L.length*D:=by rw[<-K8];exact Kb _ hi
    have b1:(k:Int)*(D:Int)=((k*D:Nat):Int):=by rfl
    have b2:((k+1:Nat):Int)*(D:Int)=((k*D+D:Nat):Int):=by grind
    have gf:(L.getD i []).length=B*D:=by grind
    simp only[Jt,Ji]at ha2;rw[hD.d,yS hi,zH,yA [] hi,bs,b1,zB,bs,show(k:Int)+1=((k+1:Nat):Int)from by omega,zB,bs,b2,zB,bs,zF8,bs,zV (by rw[zU];omega),bs,zB,bs,cs];rfl) (fun acc2=>by
    unfold zS8;simp)
   rw[this,Jz,zEK]
   congr 2
   rw[gl];refine Gt (by simp) fun j h1 h2=>?_
   grind
  rw[yS hk,zH,inner,bs,zV (by simp;omega),bs,zB,bs,cs]
 ·unfold zWL
  simp
end
section
variable {x:SPr}{m:zE}{D:Nat} (hx:zA2 x) (hD:MOk x.zA.length m D)
 include hx hD
theorem zAB(h0:0<x.zA.length)(hc:xC (suf x 0))(hr:zF0 x m D):∃K pk,f_n x m=jd K/\Red m.Prime (base x.zA.length x.zA.length*D) K pk/\
  ∀y,Row m.Prime (base x.zA.length x.zA.length*D) y->(Sp m.Prime (base x.zA.length x.zA.length*D) K y↔xC (suf (exx D x m (Tc (base x.zA.length x.zA.length) D y)) 0)):=by
 have h6:=hx.n6;have hb:=xY x.zA.length (by omega);have h1:=hD.d1;have h3:=hD.d3;have hB:base x.zA.length x.zA.length*D<=21*3:=Jq hb.2.1 h3;obtain⟨L,l1,l2,l3,l4⟩:=zVd hx hD h0 hc hr;have hLD:L.length*D<=1000*3:=Jq l2 h3;obtain⟨K,pk,k1,_,k3,k4⟩:=zF5 hD.p (c:=L.length*D) (N:=base x.zA.length x.zA.length*D) (A:=gl (base x.zA.length x.zA.length*D) fun k=>zEK D k L) (by omega) (fun k hk=>by rw[xI hk];refine⟨zMY L,fun j hj=>?_⟩;have hi:j/D<L.length:=(H7 (by omega)).2 hj;have hm:j%D<D:=Hu _ (by omega);have e:=zKV (D:=D) (k:=k) L (j/D) (j%D) hi hm;rw[show j/D*D+j%D=j from by grind[Lw]]at e;rw[e];have gG:=l3 (L.getD (j/D) []) (by grind);exact gG.2 _ (jL hk hm)) wK
 refine⟨K,pk,?_,k3,fun y hy=>?_⟩
 ·unfold f_n
  have b1:((base x.zA.length x.zA.length:Nat):Int)*(D:Int)=((base x.zA.length x.zA.length*D:Nat):Int):=by rfl
  rw[zB7 rfl h6,bs,hD.d,b1,zB,bs,zIb hD hb.2.1,bs,l1,bs,zJB hD (by omega) l2 (fun r hr=>(l3 r hr).1),bs,show((L.length:Nat):Int)*(D:Int)=((L.length*D:Nat):Int)from by rfl,zB,bs,k1,bs]
 ·rw[k4 y,<-l4 y hy,<-zVe (L:=L)]
end
theorem tS{w:List Nat}{t:Nat}(h:t<w.length:=by omega):ixO (enW w) (t:Int)=jd (((w.getD t 0:Nat):Int)+1):=by
 rw[yA 0 (by grind)]
 grind
theorem qA{w:List Nat}{t:Nat}(h:t<w.length:=by omega):w.drop t=w.getD t 0::w.drop (t+1):=by grind[Hq]
theorem zCY{w:List Nat}{a b:Nat}(h1:a<=b)(h2:b<=w.length:=by omega):zR (enW w) (a:Int) (b:Int)=jd (enW ((w.drop a).take (b-a))):=by
 unfold zR
 simp_all
theorem zVi{w:List Nat}{t o:Nat}{L:Int->Option (Int⊕(Unit⊕Bool))}(hL:L=zPC (enW w) (t:Int) (enW ((w.drop t).take o))\/L=zPD (enW w) (t:Int) (enW ((w.drop t).take o)))(ht:t<w.length)(ho:t+o<=w.length)(hl:w.length<=1000000):
  zG L 0=jd (if decide ((w.drop t).take o=J1 o (w.getD t 0))then .inl ()else .inr jg):=by
 have gf:((w.drop t).take o).length=o:=by grind
 have aN:(enW ((w.drop t).take o)).length=o:=by grind
 have fM:∀i,i<o->((w.drop t).take o).getD i 0=w.getD (t+i) 0:=by grind
 have hb:∀i,i<o->L (i:Int)=jd (if(w.getD (t+i) 0==w.getD t 0)then .inl ((i+1:Nat):Int)else .inr (.inr jg)):=fun i hi=>by
  have e1:ixO (enW ((w.drop t).take o)) (i:Int)=jd (((w.getD (t+i) 0:Nat):Int)+1):=by grind[tS]
  have e2:(((w.getD (t+i) 0:Nat):Int)+1 != ((w.getD t 0:Nat):Int)+1)= !(w.getD (t+i) 0==w.getD t 0):=by grind
  rcases hL with rfl|rfl<;>
  ·first|unfold zPC|unfold zPD
   rw[aN,yS hi,zH,e1,bs,tS ht,bs,e2]
   by_cases g:(w.getD (t+i) 0==w.getD t 0)=jf
   ·rw[g,L5,zJ,zB,bs,cs];rfl
   grind
 have he:L (o:Int)=jd (.inr (.inl ())):=by
  rcases hL with rfl|rfl
  ·unfold zPC
   grind
  ·unfold zPD
   grind
 rw[zJq o (fun i=>w.getD (t+i) 0==w.getD t 0) (by grind) (fun _=>he)]
 congr 1
 have mc:(Jd o).all (fun i=>w.getD (t+i) 0==w.getD t 0)=decide ((w.drop t).take o=J1 o (w.getD t 0)):=by
  rw[Bool.eq_iff_iff,Ki,decide_eq_true_iff];constructor
  ·intro g
   refine Gt (by grind) fun i h1 h2=>?_
   have:=g i (by grind)
   grind
  grind
 rw[mc]
section
variable {x:SPr} (h:Pres x)
 include h
theorem qM{a:Nat}(ha:a<x.zA.length):ixO x.zA (a:Int)=jd ((yC x a:Nat):Int)/\2<=yC x a/\yC x a<=7:=by
 have hp:=(h.os.2 a ha).pos;rw[yA 0 ha]
 grind
theorem zVj{w:List Nat}{t:Nat}(ht:t<w.length):(pws x (w.drop t)).isSome=decide (t+yC x (w.getD t 0)<=w.length/\(w.drop t).take (yC x (w.getD t 0))=J1 (yC x (w.getD t 0)) (w.getD t 0)):=by
 have _:=h;have hd:=qA ht
 by_cases g:(w.drop t).take (yC x (w.getD t 0))=J1 (yC x (w.getD t 0)) (w.getD t 0)
 ·have hl:=zBo g
  rw[Kk]at hl;rw[ji ⟨by omega,g⟩];rw[hd]at g ⊢
  simp only[pws]
  grind
 ·rw[jh fun z=>g z.2]
  rw[hd]at g ⊢
  simp only[pws]
  grind
theorem zIc{w:List Nat}(hw:∀a∈w,a<x.zA.length)(hl:w.length<=1000000){t:Nat}(ht:t<w.length):f_J x (enW w) (t:Int)=jd (hdS x (w.drop t)).isSome:=by
 have ha:w.getD t 0<x.zA.length:=by grind[Js]
 obtain⟨o1,o2,o3⟩:=qM h ha;have gf:(enW w).length=w.length:=by simp
 have hd:=qA ht;have a1:((w.getD t 0:Nat):Int)+1-1=((w.getD t 0:Nat):Int):=by omega
 have a2:(t:Int)+((yC x (w.getD t 0):Nat):Int)=((t+yC x (w.getD t 0):Nat):Int):=by omega
 have h9:=h.os.1;have fin:∀L:List Int->Int->Option (Int⊕(Unit⊕Bool)),(∀o,L (enW ((w.drop t).take o))=zPC (enW w) (t:Int) (enW ((w.drop t).take o))\/L (enW ((w.drop t).take o))=zPD (enW w) (t:Int) (enW ((w.drop t).take o)))->
   (cond (decide (((t+yC x (w.getD t 0):Nat):Int)> ((w.length:Nat):Int))) (jd jg) ((jd ((t+yC x (w.getD t 0):Nat):Int)).bind fun v9=>(zR (enW w) (t:Int) v9).bind fun v10=>(zG (L v10) 0).bind fun r14=>match r14 with|(.inl _)=>jd jf|(.inr r14)=>jd r14))=jd (pws x (w.drop t)).isSome:=by
  intro L hL;rw[zVj h ht]
  by_cases g:t+yC x (w.getD t 0)<=w.length
  ·rw[jh (by omega),zJ,bs,zCY (by omega) g,bs,H4,zVi (hL _) ht g hl,bs]
   grind
  grind
 unfold f_J;rw[gf,zB,bs]
 by_cases g:t+1<w.length
 ·have pK:=qA g
  rw[ji,zH,tS ht,bs,bs,show(t:Int)+1=((t+1:Nat):Int)from by omega,tS g,bs]
  by_cases g2:w.getD (t+1) 0<w.getD t 0
  ·rw[ji,zH,hd,pK]
   unfold hdS;simp only[swp]
   grind
  ·rw[jh (by omega),zJ,bs,a1,zB,bs,o1,bs,a2,zB,bs]
   refine(fin (fun v=>zPC (enW w) (t:Int) v) fun o=>.inl rfl).trans ?_;have:swp x (w.drop t)=je:=by rw[hd,pK];simp only[swp];grind
   grind[hdS]
 ·rw[jh (by omega),zJ,tS ht,bs,a1,zB,bs,o1,bs,a2,zB,bs]
  refine(fin (fun v=>zPD (enW w) (t:Int) v) fun o=>.inr rfl).trans ?_
  grind[swp,hdS]
end
def stI(x:SPr):List Nat->Option (Nat×zC3)
 | []=>je
 |a::w=>match hdS x (a::w)with
  |some r=>jd (0,r)
  |none=>(stI x w).map fun z=>(z.1+1,z.2)
section
variable {x:SPr}
theorem zKW:∀w:List Nat,stS x w=(stI x w).map fun z=>(z.2.1,z.2.2.1,w.take z.1++z.2.2.2)
 | []=>rfl
 |a::w=>by
  simp only[stS,stI];cases hdS x (a::w)with
  |some r=>rfl
  |none=>
   rw[zKW w];cases stI x w with
   |none=>rfl
   |some z=>rfl
theorem zRa:∀{w:List Nat}{z:Nat×zC3},stI x w=jd z->z.1<w.length/\hdS x (w.drop z.1)=jd z.2
 | [],_,h=>by cases h
 |a::w,z,h=>by
  simp only[stI]at h;cases e:hdS x (a::w)with
  |some r=>
   grind
  |none=>
   rw[e]at h;cases e2:stI x w with
   |none=>grind
   |some q=>
    rw[e2]at h;cases h;obtain⟨h1,h2⟩:=zRa e2
    grind
theorem zNa:∀(k i:Nat)(w:List Nat),i+k=w.length->(K7 i k).findSome? (fun j=>if(hdS x (w.drop j)).isSome then jd (j:Int)else je)=(stI x (w.drop i)).map fun z=>((i+z.1:Nat):Int)
 |0,i,w,h=>by rw[Hl (by omega)];rfl
 |k+1,i,w,h=>by
  rw[Ho,Jad,qA];simp only[stI];cases e:hdS x (w.getD i 0::w.drop (i+1))with
  |some r=>rfl
  |none=>
   simp only[Ue,Hs,if_false];rw[zNa k (i+1) w (by omega)];cases stI x (w.drop (i+1))with
   |none=>rfl
   |some z=>
    grind
section
variable (h:Pres x)
 include h
theorem zBp{w:List Nat}(hw:∀a∈w,a<x.zA.length)(hl:w.length<=1000000):zSI x (enW w)=jd (match stI x w with|some z=>(z.1:Int)|none=> -1):=by
 have gf:(enW w).length=w.length:=by simp
 unfold zSI;have:=zJp (body:=zNG x (enW w)) w.length (fun j=>if(hdS x (w.drop j)).isSome then jd (j:Int)else je) 0 (Lb _) (fun i _ hi _=>by
  unfold zNG;rw[gf,yS hi,zH,zIc h hw hl hi,bs];cases hdS x (w.drop i)with
  |some r=>rfl
  |none=>
   simp only[Ue];rw[zJ,zB,bs,cs];rfl) (fun _=>by
  unfold zNG;simp)
 rw[show((0:Nat):Int)=0 from rfl,Nat.sub_zero,zNa w.length 0 w (by omega),Uf]at this;rw[this,bs];cases stI x w with
 |none=>rfl
 |some z=>simp only[He,zMh,Ji]
theorem zId{v:List Int}(hn:x.zA.length<=6)(hv:yAW x.zA v):f_C v=jd (enW (nw 0 v))/\(nw 0 v).length<=36:=by
 have hb:∀i,i<v.length->0<=at0 v i/\at0 v i<=6:=fun i hi=>by have h1:=hv.2 i hi;have h2:=(h.os.2 i (by grind)).pos;omega
 have:=zFy 0 v (by grind);have hl:=hv.1
 grind[kN]
theorem zC6(hn:x.zA.length<=6){w:List Nat}(hw:∀a∈w,a<x.zA.length)(hl:w.length<=900000){t:Nat}(ht:t<w.length)(hr:hdS x (w.drop t)=jd r):zS9 x (enW w) (t:Int)=jd (enW (w.take t++r.2.2)):=by
 have gp:∀i,i<w.length->w.getD i 0<x.zA.length:=by grind[Js]
 have ha:=gp t ht;obtain⟨o1,o2,o3⟩:=qM h ha;have gf:(enW w).length=w.length:=by simp
 have hd:=qA ht;have a1:((w.getD t 0:Nat):Int)+1-1=((w.getD t 0:Nat):Int):=by omega
 have a2:(t:Int)+((yC x (w.getD t 0):Nat):Int)=((t+yC x (w.getD t 0):Nat):Int):=by omega
 obtain⟨p1,p2⟩:=zId h hn (h.tl _ ha).1.1;have h0:zR (enW w) 0 (t:Int)=jd (enW (w.take t)):=by
  have:=zCY (w:=w) (Lb t)
  grind
 have hs:∀q,q<=w.length->zR (enW w) (q:Int) (w.length:Int)=jd (enW (w.drop q)):=fun q hq=>by rw[zCY hq (Je _),Jx (by simp)]
 have pw:swp x (w.drop t)=je->(rng (((w.getD t 0:Nat):Int)+1-1)).bind (fun v3=>(zR (enW w) 0 (t:Int)).bind fun v4=>(ixO x.zP v3).bind fun v5=>(f_C v5).bind fun r6=>(ixO x.zA v3).bind fun v7=>(rng ((t:Int)+v7)).bind fun v8=>(zR (enW w) v8 (w.length:Int)).bind fun v9=>(f_t [v4,r6,v9]).bind fun r10=>jd r10)=jd (enW (w.take t++r.2.2)):=fun bU=>by
  unfold hdS at hr;rw[bU]at hr;simp only at hr;rw[hd]at hr;simp only[pws]at hr;split at hr
  ·rename_i g
   have eK:=zBo g;rw[<-hd,Kk]at eK;cases hr;rw[a1,zB,bs,h0,bs,yA [] (by rw[h.pl];exact ha),bs,p1,bs,o1,bs,a2,zB,bs,hs _ (by omega),bs,qO (by simp) (by simp only[Hr,Uz,J5,Jf,Kd,Kk,Jt,enW];omega),bs]
   simp_all
  ·cases hr
 unfold zS9;rw[gf,zB,bs]
 by_cases g:t+1<w.length
 ·have pK:=qA g
  have hb:=gp _ g;rw[ji,zH,tS ht,bs,bs,show(t:Int)+1=((t+1:Nat):Int)from by omega,tS g,bs]
  by_cases g2:w.getD (t+1) 0<w.getD t 0
  ·rw[hd,pK]at hr
   unfold hdS at hr;simp only[swp]at hr;rw[if_pos g2]at hr;cases hr;have eM:=h.tl _ hb;have tj:=eM.2.2 (w.getD t 0-(w.getD (t+1) 0+1)) (by have:=eM.2.1;omega);obtain⟨q1,q2⟩:=zId h hn tj.1;have b1:((w.getD (t+1) 0:Nat):Int)+1-1=((w.getD (t+1) 0:Nat):Int):=by omega
   have b2:((w.getD t 0:Nat):Int)-((w.getD (t+1) 0:Nat):Int)-1=((w.getD t 0-(w.getD (t+1) 0+1):Nat):Int):=by omega
   rw[ji,zH,bs,a1,zB,bs,bs,tS g,bs,b1,zB,bs,h0,bs,zB,bs,yA [] (by rw[h.cl];exact hb),bs,zB,bs,b2,zB,bs,yA [] (by have:=eM.2.1;omega),bs,q1,bs,zB,bs,show(t:Int)+2=((t+2:Nat):Int)from by omega,hs _ (by omega),bs,qO (by simp) (by simp only[Hr,Uz,J5,Jf,Kd,Kk,Jt,J7,enW];omega),bs];simp
  ·rw[jh (by omega),zJ,bs]
   exact pw (by rw[hd,pK];simp only[swp];grind)
 ·rw[jh (by omega),zJ,tS ht,bs]
  exact pw (by rw[hd,Hl (by omega)];rfl)
end
end
def smx(p:Int)(D N:Nat)(F:Nat->Nat->Nat->Int):List zS:=gl N fun r=>zS.mk p (D:Int) (gl D fun i=>mkv D fun j=>F r i j%p)
def upd(F:Nat->Nat->Nat->Int)(s:Int)(r0:Nat)(A:Mx)(c:Nat):Nat->Nat->Nat->Int:=fun r i j=>F r i j+if r=r0/\i<c then s*ent A i j else 0
theorem zBq{β:Type}{n:Nat}{f g:Nat->β}(h:∀i,i<n->f i=g i):gl n f=gl n g:=by simp_all
section
variable {x:SPr}{m:zE}{D N:Nat}{s:Int}{r0:Nat}{A:Mx}{T0:List zS}
theorem zJC(hp:Prime m.Prime)(hD:D<=3)(_hN:N<=100)(hs:-7<=s/\s<=7)(hr:r0<N)(hA:Mat m.Prime D A){F:Nat->Nat->Nat->Int}{L:(List zS)×Int->Option (((List zS)×Int)⊕(List zS))}
  (hL:L=zWM ⟨x,m,T0⟩ s (r0:Int) (zS.mk m.Prime (D:Int) A)\/L=zWN ⟨x,m,T0⟩ s (r0:Int) (zS.mk m.Prime (D:Int) A)\/L=zWO ⟨x,m,T0⟩ s (r0:Int) (zS.mk m.Prime (D:Int) A)):
  zG L (smx m.Prime D N F,0)=jd (smx m.Prime D N (upd F s r0 A D)):=by
 have m8:=hp.pos;have bI:=hA.1;have gA:∀c,c<D-> ∀(k:Nat),(c:Int)+1=(k:Int)->((ixO A (c:Int)).bind fun v10=>(ixO (smx m.Prime D N (upd F s r0 A c)) (r0:Int)).bind fun v11=>(ixO v11.Rows (c:Int)).bind fun v12=>(f_z v12 v10 s m.Prime).bind fun r13=>(rng ((c:Int)+1)).bind fun v14=>
   (jd (.inl ((smx m.Prime D N (upd F s r0 A c)).set (r0:Int).toNat (zS.mk v11.Prime v11.tC (v11.Rows.set (c:Int).toNat r13)),v14)):Option (((List zS)×Int)⊕(List zS))))=jd (.inl (smx m.Prime D N (upd F s r0 A (c+1)),((c+1:Nat):Int))):=fun c hc k _=>by
  have gG:Row m.Prime D (mkv D fun j=>upd F s r0 A c r0 c j%m.Prime):=⟨zU _ _,fun j hj=>by rw[zW hj];exact⟨Kj _ (by omega),by have:=Kg (upd F s r0 A c r0 c j) (show 0<m.Prime by omega);omega⟩⟩
  rw[yA [],bs,smx,zA6 hr,bs];simp only
  rw[zA6 hc,bs,zBk hp gG (hA.2 c hc) hs (by omega),bs,zB,bs,J8,J8,zDK,zDK,cs]
  congr 3
  refine zBq fun r _=>?_
  by_cases g:r=r0
  ·rw[if_pos g,g]
   congr 1
   refine zBq fun i _=>?_
   by_cases g2:i=c
   ·rw[if_pos g2,g2,uN]
    refine zX fun j hj=>?_
    rw[zW hj,upd,upd,if_neg (by simp),if_pos (by simp),L7];simp
   ·rw[if_neg g2]
    refine zX fun j hj=>?_
    rw[upd,upd]
    grind
  ·rw[if_neg g]
   congr 1
   refine zBq fun i _=>zX fun j _=>?_
   rw[upd,upd,if_neg (fun z=>g z.1),if_neg (fun z=>g z.1)]
 have:=zN (body:=L) (r:=smx m.Prime D N (upd F s r0 A D)) (fun c=>(smx m.Prime D N (upd F s r0 A c),(c:Int))) D (fun c hc=>by
  rcases hL with rfl|rfl|rfl
  ·unfold zWM
   grind
  ·unfold zWN
   grind
  ·unfold zWO
   grind) (by
  rcases hL with rfl|rfl|rfl
  ·unfold zWM
   grind
  ·unfold zWN
   grind
  ·unfold zWO
   grind)
 rw[show smx m.Prime D N (upd F s r0 A 0)=smx m.Prime D N F from zBq fun r _=>by
  congr 1
  refine zBq fun i _=>zX fun j _=>?_
  rw[upd,if_neg (by simp),L7]]at this
 exact this
end
theorem zVk:∀n:Nat,n<7-> ∀j:Nat,j<n-> ∀i:Nat,i<j->((rng ((n:Int)-1)).bind fun v10=>(rng ((i:Int)*v10)).bind fun v11=>(rng ((n:Int)+v11)).bind fun v12=>(rng ((i:Int)-1)).bind fun v13=>(rng ((i:Int)*v13)).bind fun v14=>(vK v14 2).bind fun v15=>(rng (v12-v15)).bind fun v16=>(rng (v16+(j:Int))).bind fun v17=>(rng (v17-(i:Int))).bind fun v18=>(rng (v18-1)).bind fun v19=>jd v19)=jd ((base n i+(j-(i+1)):Nat):Int):=by decide+kernel
section
variable {x:SPr}{m:zE}{D:Nat}{T0:List zS} (h:Pres x) (hn:x.zA.length<=6) (hD:MOk x.zA.length m D)
 include h hn
theorem zGq{w:List Nat}(hw:∀a∈w,a<x.zA.length)(hl:w.length<=900000){t:Nat}(ht:t<w.length)(hr:hdS x (w.drop t)=jd r):zYI ⟨x,m,T0⟩ (enW w) (t:Int)=jd (r.1:Int):=by
 have _:=h;have gp:∀i,i<w.length->w.getD i 0<x.zA.length:=by grind[Js]
 have ha:=gp t ht;have gf:(enW w).length=w.length:=by simp
 have hd:=qA ht;have a1:((w.getD t 0:Nat):Int)+1-1=((w.getD t 0:Nat):Int):=by omega
 have pw:swp x (w.drop t)=je->(rng (((w.getD t 0:Nat):Int)+1-1)).bind (fun v3=>jd v3)=jd (r.1:Int):=by grind[hdS,pws,zB]
 unfold zYI;rw[gf,zB,bs]
 by_cases g:t+1<w.length
 ·have pK:=qA g
  have hb:=gp _ g;rw[ji,zH,tS ht,bs,bs,show(t:Int)+1=((t+1:Nat):Int)from by omega,tS g,bs]
  by_cases g2:w.getD (t+1) 0<w.getD t 0
  ·rw[hd,pK]at hr
   unfold hdS at hr;simp only[swp]at hr;rw[if_pos g2]at hr;cases hr;have b1:((w.getD (t+1) 0:Nat):Int)+1-1=((w.getD (t+1) 0:Nat):Int):=by omega
   rw[ji,zH,bs,a1,zB (n:=((w.getD t 0:Nat):Int)),bs,bs,tS g,bs,b1,zB (n:=((w.getD (t+1) 0:Nat):Int)),bs]
   grind[zVk]
  ·rw[jh (by omega),zJ,bs]
   exact pw (by rw[hd,pK];simp only[swp];grind)
 ·rw[jh (by omega),zJ,tS ht,bs]
  exact pw (by rw[hd,Hl (by omega)];rfl)
 include hD
theorem zFF{w:List Nat}(hw:∀a∈w,a<x.zA.length)(hl:w.length<=60000){t:Nat}(ht:t<w.length)(hr:hdS x (w.drop t)=jd r){s:Int}(hs:-7<=s/\s<=7){F:Nat->Nat->Nat->Int}:
  f_r ⟨x,m,smx m.Prime D (base x.zA.length x.zA.length) F⟩ (enW w) (t:Int) s=jd (enW (w.take t++r.2.2),⟨x,m,smx m.Prime D (base x.zA.length x.zA.length) (upd F s r.1 (wM m.Prime D m.zL r.2.1 (idM D)) D)⟩):=by
 have hp:=hD.p.pos;have h3:=hD.d3;have fx:=xY x.zA.length (by omega);have gp:∀i,i<w.length->w.getD i 0<x.zA.length:=by grind[Js]
 have ha:=gp t ht;obtain⟨o1,o2,o3⟩:=qM h ha;have gf:(enW w).length=w.length:=by simp
 have hd:=qA ht;have a1:((w.getD t 0:Nat):Int)+1-1=((w.getD t 0:Nat):Int):=by omega
 have a2:(t:Int)+((yC x (w.getD t 0):Nat):Int)=((t+yC x (w.getD t 0):Nat):Int):=by omega
 have hr0:=zZQ hn (by grind) hr;have hA:∀z,Mat m.Prime D (wM m.Prime D m.zL z (idM D)):=by grind[zHA,tJ]
 have gF:∀q,q<=w.length->zR (enW w) (q:Int) (w.length:Int)=jd (enW (w.drop q)):=fun q hq=>by rw[zCY hq (Je _),Jx (by simp)]
 have db:∀q,q<=w.length->zP0 m (enW (w.drop q))=jd (zS.mk m.Prime (D:Int) (wM m.Prime D m.zL (w.drop q) (idM D))):=fun q hq=>
  zI7 hD (by omega) (by grind) (by grind)
 have pw:swp x (w.drop t)=je->r.2.1=w.drop (t+yC x (w.getD t 0))/\t+yC x (w.getD t 0)<=w.length:=fun bU=>by
  unfold hdS at hr;rw[bU]at hr;simp only at hr;rw[hd]at hr;simp only[pws]at hr;split at hr
  ·rename_i g
   have eK:=zBo g
   grind[List.drop_drop]
  ·cases hr
 unfold f_r;rw[zGq h hn hw (by omega) ht hr,bs,zC6 h hn hw (by omega) ht hr,bs,gf,zB,bs]
 by_cases g:t+1<w.length
 ·have pK:=qA g
  have hb:=gp _ g;rw[jh (by omega),zJ,tS ht,bs,bs,show(t:Int)+1=((t+1:Nat):Int)from by omega,tS g,bs]
  by_cases g2:w.getD (t+1) 0<w.getD t 0
  ·rw[hd,pK]at hr
   unfold hdS at hr;simp only[swp]at hr;rw[if_pos g2]at hr;cases hr;rw[jh (by omega),zJ,zB,bs,show(t:Int)+2=((t+2:Nat):Int)from by omega,gF _ (by omega),bs,db _ (by omega),bs,zJC hD.p h3 (by omega) hs hr0 (hA _) (.inr (.inr rfl)),bs]
  ·obtain⟨e1,e2⟩:=pw (by rw[hd,pK];simp only[swp];grind)
   rw[ji,zH,bs,a1,zB,bs,o1,bs,a2,zB,bs,gF _ e2,bs,db _ e2,bs,zJC hD.p h3 (by omega) hs hr0 (hA _) (.inr (.inl rfl)),bs,e1]
 ·obtain⟨e1,e2⟩:=pw (by rw[hd,Hl (by omega)];rfl)
  omega
end
inductive Cb (x:SPr) (M:Nat):List Nat->Trc->List Nat->Prop where
 |refl (w:List Nat) (hl:w.length<=M) (hw:∀a∈w,a<x.zA.length):Cb x M w [] w
 |step {w w1 w' s:List Nat}{r:Nat}{tr:Trc} (hl:w.length<=M) (hw:∀a∈w,a<x.zA.length) (hs:stS x w=jd (r,s,w1)) (h:Cb x M w1 tr w'):Cb x M w ((r,s)::tr) w'
theorem Cb.st{M:Nat}{w:List Nat}{tr:Trc}(h:Cb x M w tr w'):w.length<=M/\ ∀a∈w,a<x.zA.length:=by
 cases h with
 |refl _ hl hw=>grind
 |step hl hw _ _=>grind
def zDf(m:zE)(D:Nat)(s:Int):(Nat->Nat->Nat->Int)->Trc->Nat->Nat->Nat->Int
 |F,[]=>F
 |F,(r,z)::tr=>zDf m D s (upd F s r (wM m.Prime D m.zL z (idM D)) D) tr
theorem zRb{m:zE}{D:Nat}{s:Int}{r i j:Nat}(hi:i<D):∀(tr:Trc)(F:Nat->Nat->Nat->Int),zDf m D s F tr r i j=F r i j+s*zAN m.Prime D m tr r i j
 | [],F=>by rw[zDf,zAN,Ln,L7]
 |(q,z)::tr,F=>by
  rw[zDf,zRb hi tr,upd,zAN,Jak,Int.add_assoc]
  grind
abbrev zVl(x:SPr)(w:List Nat):Int:=match stI x w with
 |some z=>(z.1:Int)
 |none=> -1
section
variable {x:SPr}{m:zE}{D:Nat} (h:Pres x) (hn:x.zA.length<=6) (hD:MOk x.zA.length m D)
 include h hn hD
theorem zKX{s:Int}(hs:-7<=s/\s<=7){w:List Nat}{tr:Trc}(hc:Cb x 60000 w tr w')(ej:stS x w'=je):∀F:Nat->Nat->Nat->Int,
  zG (zWP s) (x,m,smx m.Prime D (base x.zA.length x.zA.length) F,enW w,zVl x w)=jd (x,m,smx m.Prime D (base x.zA.length x.zA.length) (zDf m D s F tr)):=by
 induction hc with
 |refl w hl hw=>
  intro F;have e:zVl x w= -1:=by
   rw[zKW]at ej
   grind
  rw[yP,e];rfl
 |step hl hw gA hc ih=>
  rename_i w w1 w2 z r tr;intro F;rw[zKW]at gA;cases g:stI x w with
  |none=>grind
  |some q=>
   rw[g]at gA;obtain⟨t,q⟩:=q;simp only[He,Hm.injEq,Jah.injEq]at gA;obtain⟨e1,e2,e3⟩:=gA;obtain⟨ht,hh⟩:=zRa g;simp only at ht hh;have pM:=hc.st;have e:zVl x w=(t:Int):=by grind
   have h1:=zFF h hn hD hw hl ht hh hs (F:=F);rw[e3,e1,e2]at h1;have h2:=zBp h pM.2 (by omega);rw[yP,e];have hb:zWP s (x,m,smx m.Prime D (base x.zA.length x.zA.length) F,enW w,(t:Int))=jd (.inl (x,m,smx m.Prime D (base x.zA.length x.zA.length) (upd F s r (wM m.Prime D m.zL z (idM D)) D),enW w1,zVl x w1)):=by
    unfold zWP
    grind
   rw[hb];simp only
   exact ih ej _
theorem zEN{s:Int}(hs:-7<=s/\s<=7){w:List Nat}{tr:Trc}(hc:Cb x 60000 w tr w')(ej:stS x w'=je)(F:Nat->Nat->Nat->Int):
  f_L ⟨x,m,smx m.Prime D (base x.zA.length x.zA.length) F⟩ (enW w) s=jd ⟨x,m,smx m.Prime D (base x.zA.length x.zA.length) (zDf m D s F tr)⟩:=by
 have pM:=hc.st;unfold f_L;rw[show zSI (yY.p ⟨x,m,smx m.Prime D (base x.zA.length x.zA.length) F⟩) (enW w)=jd (zVl x w)from by grind[zBp],bs];have:=zKX h hn hD hs hc ej F
 grind
end
inductive Cl (x:SPr) (k M:Nat):List Nat->Trc->List Nat->Prop where
 |refl (w:List Nat) (hl:w.length<=M) (hw:∀a∈w,k<=a/\a<x.zA.length):Cl x k M w [] w
 |step {w w1 w' s:List Nat}{r:Nat}{tr:Trc} (hl:w.length<=M) (hw:∀a∈w,k<=a/\a<x.zA.length) (hs:stS x w=jd (r,s,w1)) (h:Cl x k M w1 tr w'):Cl x k M w ((r,s)::tr) w'
theorem Cl.trans{M:Nat}{w w1 w2:List Nat}(h:Cl x k M w t1 w1)(h2:Cl x k M w1 t2 w2):Cl x k M w (t1++t2) w2:=by
 induction h with
 |refl w=>exact h2
 |step hl hw hs _ ih=>exact .step hl hw hs (ih h2)
theorem Cl.mono{M M2:Nat}(hM:M<=M2){w:List Nat}{tr:Trc}(h:Cl x k M w tr w'):Cl x k M2 w tr w':=by
 induction h with
 |refl w hl hw=>exact .refl _ (by omega) hw
 |step hl hw hs _ ih=>exact .step (by omega) hw hs ih
theorem Cl.cb{M:Nat}{w:List Nat}{tr:Trc}(h:Cl x k M w tr w'):Cb x M w tr w':=by
 induction h with
 |refl w hl hw=>exact .refl _ hl (by grind)
 |step hl hw hs _ ih=>exact .step hl (by grind) hs ih
theorem Cl.col{M:Nat}{w:List Nat}{tr:Trc}(h:Cl x k M w tr w'):Col x k w tr w':=by
 induction h with
 |refl w hl hw=>exact .refl _
 |step hl hw hs _ ih=>exact .step hw hs ih
section
variable {x:SPr} (h:Pres x)
 include h
theorem zRc:∀(d k:Nat),k+d=x.zA.length-> ∀y,V (suf x k) y->(nw k y).length<=6*d
 |0,k,hk,y,hy=>by
  rw[vL (x:=x) (k:=k)]at hy;cases y with
  |nil=>simp[nw]
  |cons b y=>cases hy
 |d+1,k,hk,y,hy=>by
  have hp:=(h.os.2 k (by omega)).pos;rw[zY (x:=x)]at hy;cases y with
  |nil=>exact hy.elim
  |cons b y=>
   obtain⟨⟨h1,h2⟩,h3⟩:=hy;have ih:=zRc d (k+1) (by omega) y h3;have fO:b<at0 x.zA k:=h2
   grind[nw]
theorem Cl.ctx{a M:Nat}(hi:i<x.zA.length)(ha:a<yC x i){s:List Nat}(hs:∀b∈s,i<=b/\b<x.zA.length){w:List Nat}{tr:Trc}(hc:Cl x (i+1) M w tr w'):
  Cl x i (a+M+s.length) (J1 a i++(w++s)) (tr.map fun q=>(q.1,q.2++s)) (J1 a i++(w'++s)):=by
 have mem:∀{w:List Nat},(∀b∈w,i+1<=b/\b<x.zA.length)-> ∀b∈J1 a i++(w++s),i<=b/\b<x.zA.length:=by grind
 induction hc with
 |refl w hl hw=>exact .refl _ (by simp;omega) (mem hw)
 | @step w w1 w' s1 r tr hl hw gA _ ih=>
  refine .step (by simp;omega) (mem hw) ?_ ih;rw[zDO ha a (Je _) fun b hb=>?_,zKL (by grind[zMR]) gA]
  ·rfl
  ·cases w with
   |nil=>cases gA
   |cons c w=>
    simp only[K9,Jba,Hm.injEq]at hb;have:=hw c (by simp);omega
theorem zKY(hn:x.zA.length<=6)(hi:i<j)(hj:j<x.zA.length):(nw 0 (lcj x i j)).length<=36:=(zId h hn (uC h hi hj).1).2
theorem zRd(hn:x.zA.length<=6){i:Nat}:∀{ur:List Nat},(∀b∈ur,i+1<=b/\b<x.zA.length)->(cwd x i ur).length<=36*ur.length
 | [],_=>by simp[cwd]
 |l::ur,hu=>by
  have h1:=hu l (by simp);have h2:=zKY h hn (show i<l by omega) h1.2;have ih:=zRd hn (ur:=ur) fun b hb=>hu b (by simp[hb])
  grind[cwd]
theorem Cl.move(hn6:x.zA.length<=6){i a:Nat}(hi:i<x.zA.length)(ha:a<yC x i):∀{ur:List Nat},(∀b∈ur,i+1<=b/\b<x.zA.length)->stS x ur.reverse=je-> ∀{z:List Nat},(∀b∈z,i<=b/\b<x.zA.length)->
  Cl x i (a+1+37*ur.length+z.length) (J1 a i++(ur.reverse++i::z)) (mtr x i ur z) (J1 (a+1) i++(cwd x i ur++z))
 | [],_,_,z,hz=>by
  have e:J1 a i++(([]:List Nat).reverse++i::z)=J1 (a+1) i++(cwd x i []++z):=by grind[Lv,cwd]
  rw[e];refine .refl _ (by simp[cwd]) fun b hb=>?_
  grind
 |l::ur,hu,hn,z,hz=>by
  obtain⟨l1,l2⟩:=hu l (by simp);have p6:∀b∈ur,i+1<=b/\b<x.zA.length:=by grind
  have cR:=uW h (uC h (show i<l by omega) l2) hi;have pd:=zKY h hn6 (show i<l by omega) l2;rw[G8]at hn ⊢
  have ba:=zGc (by grind[zMR]) hn;have eW:∀b∈nw 0 (lcj x i l)++z,i<=b/\b<x.zA.length:=by grind
  have ih:=(Cl.move hn6 hi ha p6 ba eW).mono (M2:=a+1+37*(l::ur).length+z.length) (by grind);rw[show cwd x i (l::ur)++z=cwd x i ur++(nw 0 (lcj x i l)++z)from by simp[cwd]];have e1:ur.reverse++[l]++i::z=ur.reverse++l::i::z:=by simp
  rw[e1];refine .step (by simp;omega) (fun b hb=>?_) ?_ ih
  ·simp only[Ja,J9,List.mem_reverse]at hb
   rcases hb with hb|hb|hb|hb|hb
   ·grind
   ·grind
   ·omega
   all_goals grind
  ·rw[zDO ha a (Je _) fun b hb=>?_,zUP (by grind) (by omega) hn]
   ·rfl
   ·have:b∈ur.reverse++l::i::z:=by grind[Ja4]
    cases e:ur.reverse with
    |nil=>grind
    |cons c t=>
     rw[e]at hb;simp only[K9,Jba,Hm.injEq]at hb
     grind
end
section
variable {x:SPr} (h:Pres x) (hn:x.zA.length<=6)
 include h hn
theorem zKZ{k M W L:Nat}(hk:k<x.zA.length)(P:∀v:List Nat,v.length<=W->(∀a∈v,k+1<=a/\a<x.zA.length)-> ∃tr y,Cl x (k+1) M v tr (nw (k+1) y)/\V (suf x (k+1)) y):∀(z:List Nat),z.length<=L->(∀a∈z,k<=a/\a<x.zA.length)-> ∀(a:Nat),a<yC x k-> ∀(v:List Nat),v.length+z.length<=W->1400+z.length<=W->(∀a∈v,k+1<=a/\a<x.zA.length)->
  ∃tr y,Cl x k (M+L+1500) (J1 a k++(v++z)) tr (nw k y)/\V (suf x k) y
 | [],_,_,a,ha,v,fT,_,hv=>by
  obtain⟨tr,y,c1,c2⟩:=P v (by omega) hv;have ho:=(qM h hk).2.2;have hc:=(Cl.ctx h hk ha (s:=[]) (by simp) c1).mono (M2:=M+L+1500) (by simp;omega);rw[show(fun q:Nat×List Nat=>(q.1,q.2++[]))=id from by grind,List.map_id,Jh,Jh]at hc;refine⟨tr,(a:Int)::y,?_,?_⟩
  ·grind[nw]
  ·rw[zY hk]
   refine⟨⟨by omega,?_⟩,c2⟩;show(a:Int)<at0 x.zA k
   grind
 |l::z,ch,hz,a,ha,v,fT,hW,hv=>by
  have ho:=(qM h hk).2.2;have hzl2:z.length+1<=L:=by omega
  have dM:v.length+(z.length+1)<=W:=by omega
  have hW2:1400+(z.length+1)<=W:=by omega
  have eW:∀b∈z,k<=b/\b<x.zA.length:=by grind
  obtain⟨l1,l2⟩:=hz l (by simp);rcases Jo k l with g|g
  ·obtain⟨tr,y,c1,c2⟩:=zKZ (L:=L) hk P z (by omega) eW a ha (v++[l]) (by simp;omega) (by omega) (by grind)
   grind
  ·obtain rfl:l=k:=by omega
   obtain⟨tr1,y1,c1,c2⟩:=P v (by omega) hv;have gK:=zQR h (by omega) c2;have pI:∀b∈(nw (l+1) y1).reverse,l+1<=b/\b<x.zA.length:=by grind
   have eD:(nw (l+1) y1).length<=36:=by have:=zRc h (x.zA.length-(l+1)) (l+1) (by omega) y1 c2;omega
   have gy:(cwd x l (nw (l+1) y1).reverse).length<=1296:=by grind[zRd]
   have k1:=(Cl.ctx h hk ha (s:=l::z) hz c1).mono (M2:=M+L+1500) (by simp;omega);have k2:=(Cl.move h hn hk ha pI (by rw[Kh];exact zFD h _ _ (by omega:l+1+(x.zA.length-(l+1))=x.zA.length) y1 c2) eW).mono (M2:=M+L+1500) (by grind);rw[Kh]at k2;have pX:=zKO h pI;rcases Jo (a+1) (yC x l)with g2|g2
   ·obtain⟨tr2,y2,d1,d2⟩:=zKZ (L:=L) hk P z (by omega) eW (a+1) g2 (cwd x l (nw (l+1) y1).reverse) (by omega) (by omega) pX
    exact⟨_,y2,k1.trans (k2.trans d1),d2⟩
   ·have g4:a+1=yC x l:=by omega
    have pU:=sQ h hk;have pV:=uW h pU hk;have p9:=(zId h hn pU.1).2;have dj:∀b∈nw 0 (x.zP.getD l [])++cwd x l (nw (l+1) y1).reverse,l+1<=b/\b<x.zA.length:=fun b hb=>by
     simp only[Ja]at hb;rcases hb with hb|hb
     ·grind
     grind
    obtain⟨tr2,y2,d1,d2⟩:=zKZ (L:=L) hk P z (by omega) eW 0 (by omega) _ (by grind) (by omega) dj;rw[Lz,Jz,Jg]at d1;have k3:Cl x l (M+L+1500) (J1 (a+1) l++(cwd x l (nw (l+1) y1).reverse++z)) ((l,cwd x l (nw (l+1) y1).reverse++z)::tr2) (nw l y2):=by
     refine .step (by grind[J5,Jk]) (fun b hb=>?_) (by grind[zZH,zMR]) d1;simp only[Ja]at hb;rcases hb with hb|hb|hb
     ·grind
     ·grind
     grind
    exact⟨_,y2,k1.trans (k2.trans k3),d2⟩
def lnB:Nat->Nat->Nat
 |0,l=>l
 |d+1,l=>lnB d (l+1400)+l+1500
theorem zZS:∀(d k:Nat),k+d=x.zA.length-> ∀(L:Nat)(z:List Nat),z.length<=L->(∀a∈z,k<=a/\a<x.zA.length)-> ∃tr y,Cl x k (lnB d L) z tr (nw k y)/\V (suf x k) y
 |0,k,hk,L,z,_,hz=>by
  have:z=[]:=by
   cases z with
   |nil=>rfl
   |cons a z=>have:=hz a (by simp);omega
  subst this;exact⟨[],[],.refl _ (by simp) (by simp),by rw[vL (x:=x) (k:=k)];rfl⟩
 |d+1,k,hk,L,z,hl,hz=>by
  have ho:=zMR h (show k<x.zA.length by omega);obtain⟨tr,y,c1,c2⟩:=zKZ h hn (M:=lnB d (L+1400)) (W:=L+1400) (L:=L) (by omega) (fun v hv hvm=>zZS d (k+1) (by omega) (L+1400) v hv hvm) z hl hz 0 (by omega) [] (by simp;omega) (by omega) (by simp)
  grind[lnB]
theorem zRe{L:Nat}(hk:k<=x.zA.length){z:List Nat}(hl:z.length<=L){tr:Trc}(hc:tR x k z tr y)(hz:∀a∈z,k<=a/\a<x.zA.length):Cb x (lnB (x.zA.length-k) L) z tr (nw k y)/\stS x (nw k y)=je:=by obtain⟨tr2,y2,c1,c2⟩:=zZS h hn (x.zA.length-k) k (by omega) L z hl hz;have n1:=zFD h (x.zA.length-k) k (by omega) y hc.v;have n2:=zFD h (x.zA.length-k) k (by omega) y2 c2;obtain⟨e1,e2⟩:=Col.det hc.col c1.col n1 n2;rw[e1,e2];exact⟨c1.cb,n2⟩
end
theorem yB4:∀d:Nat,d<7->lnB d 100<=60000:=by decide
structure PD.Ok (x:SPr) (d:PD):Prop where
 h1:hdS x (d.wd.drop 0)=jd (d.r1,d.s1,d.w1)
 ht:d.t<d.wd.length
 h2:∃q,hdS x (d.wd.drop d.t)=jd (d.r2,d.s2,q)/\d.w2=d.wd.take d.t++q
 l:d.wd.length<=14
 l1:d.w1.length<=100
 l2:d.w2.length<=100
 m1:∀a∈d.w1,d.k<=a/\a<x.zA.length
 m2:∀a∈d.w2,d.k<=a/\a<x.zA.length
section
variable {x:SPr} (h:Pres x) (hn:x.zA.length<=6)
 include h hn
theorem zRf{a b:Nat}{s:List Nat}(fC:b<a):hdS x (a::b::s)=jd (base x.zA.length b+(a-(b+1)),s,b::(nw 0 (lcj x b a)++s)):=by
 have _:=h;have _:=hn;unfold hdS;simp only[swp]
 grind
theorem zRg{a:Nat}{s:List Nat}(ha:a<x.zA.length):hdS x (J1 (yC x a) a++s)=jd (a,s,nw 0 (x.zP.getD a [])++s):=by
 have _:=hn;obtain⟨q,hq⟩:∃q,yC x a=q+2:=⟨yC x a-2,by have:=(qM h ha).2.1;omega⟩;have e:swp x (J1 (yC x a) a++s)=je:=by rw[hq,Jv,Jv];simp only[K9,swp];simp
 unfold hdS;rw[e];have e2:J1 (yC x a) a++s=a::(J1 (q+1) a++s):=by grind
 have e3:(J1 (yC x a) a++s).take (yC x a)=J1 (yC x a) a:=by simp
 have e4:(J1 (yC x a) a++s).drop (yC x a)=s:=by simp
 rw[e2]at e3 e4;rw[e2];simp only[pws]
 grind
theorem zLa:∀d∈cps x,d.Ok x:=by
 have fu:∀i j,i<j->j<x.zA.length-> ∀a∈nw 0 (lcj x i j),i+1<=a/\a<x.zA.length:=fun i j hi hj=>(uW h (uC h hi hj) (by omega)).2
 have fE:∀i,i<x.zA.length-> ∀a∈nw 0 (x.zP.getD i []),i+1<=a/\a<x.zA.length:=fun i hi=>(uW h (sQ h hi) hi).2
 have lcon:∀i j,i<j->j<x.zA.length->(nw 0 (lcj x i j)).length<=36:=fun i j hi hj=>zKY h hn hi hj
 have lpow:∀i,i<x.zA.length->(nw 0 (x.zP.getD i [])).length<=36:=fun i hi=>(zId h hn (sQ h hi).1).2
 have od:∀i,i<x.zA.length->2<=yC x i/\yC x i<=7:=fun i hi=>(qM h hi).2
 refine zAA.2 ⟨fun i j k h1 h2 h3=>?_,fun i j h1 h2=>?_,fun i j h1 h2=>?_,fun i h1=>?_⟩
 ·have c1:=lcon j k h2 h3
  have c2:=lcon i j h1 (by omega);refine⟨zRf h hn h2,by simp[pd2],⟨i::(nw 0 (lcj x i j)++[]),zRf h hn h1,by simp[pd2]⟩,by simp[pd2],by simp only[pd2,J7,J5,Jt];omega,by simp only[pd2,J7];omega,fun a ha=>?_,fun a ha=>?_⟩
  ·simp only[pd2,J9,Ja,G9,or_false]at ha ⊢
   rcases ha with rfl|ha|rfl
   ·omega
   ·have:=fu j k (by omega) h3 a ha;omega
   ·omega
  ·simp only[pd2,J9]at ha ⊢
   rcases ha with rfl|rfl|ha
   ·omega
   ·omega
   ·have:=fu i j (by omega) (by omega) a ha;omega
 ·have c1:=lpow j h2
  have c2:=lcon i j h1 h2;have o:=od j h2;have e:J1 (yC x j) j++[i]=J1 (yC x j-1) j++[j,i]:=by obtain⟨q,hq⟩:∃q,yC x j=q+1:=⟨yC x j-1,by omega⟩;rw[hq,Lv,Jax,Jg];rfl
  refine⟨zRg h hn h2,by simp only[pd1,J5,Jk,J7,Jt];omega,⟨i::(nw 0 (lcj x i j)++[]),?_,?_⟩,by simp only[pd1,J5,Jk,J7,Jt];omega,by simp only[pd1,J7,J5,Jt];omega,by simp only[pd1,J5,Jk,J7];omega,fun a ha=>?_,fun a ha=>?_⟩
  ·show hdS x ((J1 (yC x j) j++[i]).drop (yC x j-1))=_
   rw[e,K0 (Jk)];exact zRf h hn h1
  ·show _=(J1 (yC x j) j++[i]).take (yC x j-1)++_
   rw[e,Jr (Jk),Jh];rfl
  ·simp only[pd1,Ja,List.mem_singleton]at ha ⊢
   rcases ha with ha|rfl
   ·have:=fE j h2 a ha;omega
   ·omega
  ·simp only[pd1,Ja,J9]at ha ⊢
   rcases ha with ha|rfl|ha
   ·have:=H1 ha;omega
   ·omega
   ·have:=fu i j h1 h2 a ha;omega
 ·have c1:=lpow i (by omega)
  have c2:=lcon i j h1 h2;have o:=od i (by omega);have e:J1 (yC x i) i=i::J1 (yC x i-1) i:=by obtain⟨q,hq⟩:∃q,yC x i=q+1:=⟨yC x i-1,by omega⟩;rw[hq,Jv,Jax]
  refine⟨?_,by simp only[pd4,Jk,J7];omega,⟨nw 0 (x.zP.getD i [])++[],?_,by simp[pd4]⟩,by simp only[pd4,Jk,J7];omega,by simp only[pd4,J7,J5,Jk];omega,by simp only[pd4,J7];omega,fun a ha=>?_,fun a ha=>?_⟩
  ·show hdS x (j::J1 (yC x i) i)=_
   rw[e];exact zRf h hn h1
  ·show hdS x (J1 (yC x i) i)=_
   have:=zRg h hn (s:=[]) (show i<x.zA.length by omega);rw[Jh]at this;exact this
  ·simp only[pd4,J9,Ja]at ha ⊢
   rcases ha with rfl|ha|ha
   ·omega
   ·have:=fu i j h1 h2 a ha;omega
   ·have:=H1 ha;omega
  ·simp only[pd4,J9]at ha ⊢
   rcases ha with rfl|ha
   ·omega
   ·have:=fE i (by omega) a ha;omega
 ·have c1:=lpow i h1
  have o:=od i h1;refine⟨?_,by simp only[pd3,Jk];omega,⟨nw 0 (x.zP.getD i [])++[],?_,?_⟩,by simp only[pd3,Jk];omega,by simp only[pd3,J7,J5,Jt];omega,by simp only[pd3,J7];omega,fun a ha=>?_,fun a ha=>?_⟩
  ·show hdS x (J1 (yC x i+1) i)=_
   rw[Lv];exact zRg h hn h1
  ·show hdS x ((J1 (yC x i+1) i).drop 1)=_
   rw[Jv,List.drop_succ_cons,Uf];have:=zRg h hn (s:=[]) h1;rw[Jh]at this;exact this
  ·show i::nw 0 (x.zP.getD i [])=(J1 (yC x i+1) i).take 1++_
   rw[Jv,Jh];rfl
  ·simp only[pd3,Ja,List.mem_singleton]at ha ⊢
   rcases ha with ha|rfl
   ·have:=fE i h1 a ha;omega
   ·omega
  ·simp only[pd3,J9]at ha ⊢
   rcases ha with rfl|ha
   ·omega
   ·have:=fE i h1 a ha;omega
end
section
variable {x:SPr}{m:zE}{D:Nat} (h:Pres x) (hn:x.zA.length<=6) (hD:MOk x.zA.length m D)
 include h hn hD
theorem zRY{d:PD}(hd:d∈cps x)(hb:d.B x t1 t2)(F:Nat->Nat->Nat->Int):
  ((f_r ⟨x,m,smx m.Prime D (base x.zA.length x.zA.length) F⟩ (enW d.wd) ((0:Nat):Int) 1).bind fun r=>(f_L r.2 r.1 1).bind fun k2=>(f_r k2 (enW d.wd) (d.t:Int) (-1)).bind fun r3=>f_L r3.2 r3.1 (-1))=
   jd ⟨x,m,smx m.Prime D (base x.zA.length x.zA.length) (zDf m D (-1) (zDf m D 1 F t1) t2)⟩:=by
 have ok:=zLa h hn d hd;obtain⟨hk,mT,_⟩:=zGA h hn d hd;obtain⟨⟨u1,y1,rfl,k1⟩,⟨u2,y2,rfl,k2⟩⟩:=hb;obtain⟨q,q1,q2⟩:=ok.h2;have hl:=ok.l;have ht:=ok.ht;obtain⟨c1,n1⟩:=zRe h hn (by omega) ok.l1 k1 ok.m1;obtain⟨c2,n2⟩:=zRe h hn (by omega) ok.l2 k2 ok.m2;have up:∀{w w':List Nat}{tr:Trc},Cb x (lnB (x.zA.length-d.k) 100) w tr w'->Cb x 60000 w tr w':=fun{w w' tr} hc=>by
  have hM:=yB4 (x.zA.length-d.k) (by omega)
  generalize lnB (x.zA.length-d.k) 100=M at hc hM
  induction hc with
  |refl w hl hw=>exact .refl _ (by omega) hw
  |step hl hw hs _ ih=>exact .step (by omega) hw hs ih
 rw[zFF h hn hD mT (by omega) (by omega) ok.h1 (s:=1) (by omega) (F:=F),bs];simp only[Kc,Jz];rw[zEN h hn hD (by omega) (up c1) n1,bs,zFF h hn hD mT (by omega) ht q1 (s:=-1) (by omega),bs];simp only
 rw[<-q2,zEN h hn hD (by omega) (up c2) n2];rfl
end
theorem zVm{p:Int}{r:Nat}(hi:i<D)(hp:m.Prime=p):(mkv D fun j=>zDf m D (-1) (zDf m D 1 (fun _ _ _=>0) t1) t2 r i j%m.Prime)=prR p D m t1 t2 (r*D+i):=by grind[tY,prR,zRb]
theorem uX{α β:Type}{f:α->List β}{c:Nat}(hf:∀a,(f a).length<=c):∀l:List α,(l.flatMap f).length<=l.length*c
 | []=>by simp
 |a::l=>by
  have:=uX hf l
  grind[K8]
theorem zGB(hn:x.zA.length<=6):(cps x).length<=300:=by
 have hu:∀i,(ups x.zA.length i).length<=6:=by grind[ups]
 have h1:=uX (c:=36) (f:=fun i=>(ups x.zA.length i).flatMap fun j=>(ups x.zA.length j).map fun k=>pd2 x i j k) (fun i=>by
  have:=uX (c:=6) (f:=fun j=>(ups x.zA.length j).map fun k=>pd2 x i j k) (by grind) (ups x.zA.length i)
  grind) (Jd x.zA.length)
 have h2:=uX (c:=6) (f:=fun i=>(ups x.zA.length i).map fun j=>pd1 x i j) (by grind) (Jd x.zA.length);have h3:=uX (c:=6) (f:=fun i=>(ups x.zA.length i).map fun j=>pd4 x i j) (by grind) (Jd x.zA.length)
 grind[cps]
section
variable {x:SPr}{m:zE}{D:Nat} (hx:zA2 x) (hD:MOk x.zA.length m D)
 include hx hD
theorem zNb(h0:0<x.zA.length)(hc:xC (suf x 0))(hr:zF0 x m D)(hq:sZ x (cps x) prs):∃K,f_n x m=jd K/\
  f_Z m.Prime (gl (base x.zA.length x.zA.length*D) fun k=>kO m.Prime D m prs k) ((prs.length*D:Nat):Int)=jd K:=by
 have h6:=hx.n6;have hp:=hD.p.pos;have hb:=xY x.zA.length (by omega);have h3:=hD.d3;have hB:base x.zA.length x.zA.length*D<=21*3:=Jq hb.2.1 h3;have hql:prs.length<=300:=by rw[<-hq.len];exact zGB h6
 have hqD:prs.length*D<=300*3:=Jq hql h3;obtain⟨K,pk,k1,k2,k3⟩:=zAB hx hD h0 hc hr;obtain⟨K2,pk2,_,j2,j3,j4⟩:=zF5 hD.p (c:=prs.length*D) (N:=base x.zA.length x.zA.length*D) (A:=gl (base x.zA.length x.zA.length*D) fun k=>kO m.Prime D m prs k) (by omega) (fun k hk=>by rw[xI hk];refine⟨zIa prs,fun j hj=>?_⟩;have df:0<D:=hD.d1;have hi:j/D<prs.length:=(H7 df).2 hj;have hm:j%D<D:=Hu _ df;have e:=zEM (F:=fun q:Trc×Trc=>prR m.Prime D m q.1 q.2 k) (fun _=>zU _ _) prs (j/D) (j%D) hi hm;rw[show j/D*D+j%D=j from by grind[Lw]]at e;rw[kO,e,prR,zW hm];exact⟨Kj _ (by omega),by have:=Kg (zAN m.Prime D m (prs[j/D]).1 (k/D) (k%D) (j%D)-zAN m.Prime D m (prs[j/D]).2 (k/D) (k%D) (j%D)) (show 0<m.Prime by omega);omega⟩) wK
 have key:∀y,Row m.Prime (base x.zA.length x.zA.length*D) y->(Sp m.Prime (base x.zA.length x.zA.length*D) K y↔Sp m.Prime (base x.zA.length x.zA.length*D) K2 y):=by grind[zVh]
 have e:K=K2:=Red.unique (by omega) k2 j3 ⟨fun i hi=>(key _ (k2.row i hi)).1 (uO hi),fun i hi=>(key _ (j3.row i hi)).2 (uO hi)⟩
 grind
end
section
variable {x:SPr}{m:zE}{D:Nat} (h0:x.zA.length=0) (hD:MOk x.zA.length m D)
 include h0 hD
theorem zRZ{T:Mx}:zLr ⟨x,m,T⟩=jd []:=by
 have _:=hD;unfold zLr;rw[yP];unfold zJO
 grind
theorem zOV:∃K pk,f_n x m=jd K/\f_Z m.Prime [] 0=jd K/\Red m.Prime 0 K pk:=by
 obtain⟨K,pk,k1,k2,k3,_⟩:=zF5 hD.p (c:=0) (N:=0) (A:=[]) (by omega) (by simp) rfl;refine⟨K,pk,?_,k2,k3⟩;unfold f_n;have e1:=zIb hD (N:=0) (by omega);have e2:=zJB hD (B:=0) (L:=[]) (by omega) (by simp) (by simp);rw[Uy]at e1;rw[zB7 h0,bs,hD.d,show base 0 0=0 from rfl,show((0:Nat):Int)*(D:Int)=((0:Nat):Int)from by simp,zB,bs,e1,bs,zRZ h0 hD,bs,e2,bs,show((([]:Mx).length:Nat):Int)*(D:Int)=((0:Nat):Int)from by simp,zB,bs]
 grind
end
theorem yFn{v:Int}:f_k [v] 4=jd [v,v,v,v]:=by
 unfold f_k;have h:=zN (body:=zBI) (r:=[v,v,v,v]) (fun i=>match i with|0=>([v,0,0,0],1)|1=>([v,v,0,0],2)|_=>([v,v,v,v],4)) 2 (fun i hi=>by
  match i,hi with
  |0,_=>rfl
  |1,_=>simp[zBI,zR,wP,rng,inR]) (by rfl)
 rw[show decide ((4:Int)<0)=jg from rfl,zJ,zM4 (by rfl),bs];have hl:yG (IntKind.wrap .i64 4)=jd 4:=by rfl
 simp only[hl,bs];rw[show decide ((0:Int)> 0)=jg from rfl,zJ,show decide ((4:Int)> 9223372036854775807)=jg from by decide,zJ]
 grind[wP]
theorem yFo{v:Int}:f_k [v] 6=jd [v,v,v,v,v,v]:=by
 unfold f_k;have h:=zN (body:=zBI) (r:=[v,v,v,v,v,v]) (fun i=>match i with|0=>([v,0,0,0,0,0],1)|1=>([v,v,0,0,0,0],2)|2=>([v,v,v,v,0,0],4)|_=>([v,v,v,v,v,v],6)) 3 (fun i hi=>by
  match i,hi with
  |0,_=>rfl
  |1,_=>simp[zBI,zR,wP,rng,inR]
  |2,_=>rfl) (by rfl)
 rw[show decide ((6:Int)<0)=jg from rfl,zJ,zM4 (by rfl),bs];have hl:yG (IntKind.wrap .i64 6)=jd 6:=by rfl
 simp only[hl,bs];rw[show decide ((0:Int)> 0)=jg from rfl,zJ,show decide ((6:Int)> 9223372036854775807)=jg from by decide,zJ];have e2:wP (J1 6 (0:Int)) 0 (([v]:List Int).take ((J1 6 (0:Int)).length-0))=[v,0,0,0,0,0]:=by rfl
 grind
theorem yFp{v:Int}:f_k [v] 8=jd [v,v,v,v,v,v,v,v]:=by
 unfold f_k;have h:=zN (body:=zBI) (r:=[v,v,v,v,v,v,v,v]) (fun i=>match i with|0=>([v,0,0,0,0,0,0,0],1)|1=>([v,v,0,0,0,0,0,0],2)|2=>([v,v,v,v,0,0,0,0],4)|_=>([v,v,v,v,v,v,v,v],8)) 3 (fun i hi=>by
  match i,hi with
  |0,_=>rfl
  |1,_=>simp[zBI,zR,wP,rng,inR]
  |2,_=>simp[zBI,zR,wP,rng,inR]) (by rfl)
 rw[show decide ((8:Int)<0)=jg from rfl,zJ,zM4 (by rfl),bs];have hl:yG (IntKind.wrap .i64 8)=jd 8:=by rfl
 simp only[hl,bs];rw[show decide ((0:Int)> 0)=jg from rfl,zJ,show decide ((8:Int)> 9223372036854775807)=jg from by decide,zJ];have e2:wP (J1 8 (0:Int)) 0 (([v]:List Int).take ((J1 8 (0:Int)).length-0))=[v,0,0,0,0,0,0,0]:=by rfl
 grind
theorem zAC{β:Type}{body:List β×Int->Option ((List β×Int)⊕List β)}(s n B:Nat)(F:Nat->List β)(a0:List β)(hB:a0.length+((K7 s n).flatMap F).length<=B)
  (h:∀i acc,s<=i->i<s+n->acc.length+(F i).length<=B->body (acc,((i+1:Nat):Int))=jd (.inl (acc++F i,((i+1+1:Nat):Int))))(he:∀acc,body (acc,((s+n+1:Nat):Int))=jd (.inr acc)):
  zG body (a0,((s+1:Nat):Int))=jd (a0++(K7 s n).flatMap F):=by
 have:=zN (body:=body) (r:=a0++(K7 s n).flatMap F) (fun i=>(a0++(K7 s i).flatMap F,((s+i+1:Nat):Int))) n (fun i hi=>by
  have e:(K7 s (i+1)).flatMap F=(K7 s i).flatMap F++F (s+i):=by rw[Qj,U5,Kq,qc9,Jh]
  have fd:((K7 s (i+1)).flatMap F).length<=((K7 s n).flatMap F).length:=by
   obtain⟨k,rfl⟩:∃k,n=i+1+k:=⟨n-(i+1),by omega⟩;have e3:K7 s (i+1+k)=K7 s (i+1)++K7 (s+(i+1)) k:=List.range'_append_1.symm
   grind
  grind) (he _)
 grind
def CPd(d:PD):zI:=⟨enW d.wd,enW d.w1,enW d.w2⟩
section
variable {x:SPr} (h:Pres x) (hn:x.zA.length<=6)
 include h
theorem zNc{v:Int}{a:Nat}(ha:a<x.zA.length):zNF v ((yC x a:Nat):Int)=jd (J1 (yC x a) v):=by
 have hp:=h.os.2 a ha;have e:=(qM h ha).1;have e2:at0 x.zA a=((yC x a:Nat):Int):=by grind[yK]
 grind[zNF,zCz]
theorem zSa{v:Int}{a:Nat}(ha:a<x.zA.length):zNF v (((yC x a+1:Nat)):Int)=jd (J1 (yC x a+1) v):=by
 have hp:=h.os.2 a ha;have e:=(qM h ha).1;have e2:at0 x.zA a=((yC x a:Nat):Int):=by grind[yK]
 rw[e2]at hp;have:yC x a=2\/yC x a=3\/yC x a=5\/yC x a=7:=by rcases hp with g|g|g|g<;>omega
 unfold zNF;rcases this with g|g|g|g<;>rw[g]
 ·exact(congrArg (fun o=>U0 o _) (zCz (v:=v) (o:=3) (.inr (.inl rfl)))).trans rfl
 ·exact(congrArg (fun o=>U0 o _) (yFn (v:=v))).trans rfl
 ·exact(congrArg (fun o=>U0 o _) (yFo (v:=v))).trans rfl
 ·exact(congrArg (fun o=>U0 o _) (yFp (v:=v))).trans rfl
 include hn
theorem zEO{d:PD}(hd:d∈cps x)(ho:out.length<=100000):zNE (enW d.wd) (d.t:Int) out x=jd (out++[CPd d]):=by have ok:=zLa h hn d hd;obtain⟨_,mT,_⟩:=zGA h hn d hd;obtain⟨q,q1,q2⟩:=ok.h2;have hl:=ok.l;have ht:=ok.ht;unfold zNE;rw[show(0:Int)=((0:Nat):Int)from rfl,zC6 h hn mT (by omega) (by omega) ok.h1,bs,zC6 h hn mT (by omega) ht q1,bs,zV (by grind),bs];simp only[Kc,Jz];rw[<-q2];rfl
end
theorem zBE{α β:Type}{f:α->β}:∀l:List α,(l.flatMap fun a=>[f a])=l.map f
 | []=>rfl
 |a::l=>by rw[Kq,zBE l];rfl
theorem zAc(hN:N<=6):(ups N i).length<=6:=by grind[ups]
section
variable {x:SPr} (h:Pres x) (hn:x.zA.length<=6)
 include h hn
theorem yDK(gI:i<j)(hj:j<x.zA.length){o2:List zI}(ho:out.length<=3000):
  zG (zSA x (o1,((i+1:Nat):Int)) (o2,((j+1:Nat):Int))) (out,((j+1+1:Nat):Int))=jd (out++(ups x.zA.length j).map fun k=>CPd (pd2 x i j k)):=by
 have hm:=((zAA (x:=x) (φ:=fun d=>d∈cps x)).1 fun d hd=>hd).1;have hu:=zAc (i:=j) hn;have:=zAC (body:=zSA x (o1,((i+1:Nat):Int)) (o2,((j+1:Nat):Int))) (j+1) (x.zA.length-(j+1)) 4000 (fun k=>[CPd (pd2 x i j k)]) out (by rw[zBE,Jf];grind) (fun k acc hk1 eZ hb=>by
  unfold zSA;simp only
  have e:([((k+1:Nat):Int),((j+1:Nat):Int),((i+1:Nat):Int)])=enW (pd2 x i j k).wd:=by rfl
  rw[ji,zH,e,show(1:Int)=((pd2 x i j k).t:Int)from rfl,zEO h hn (by grind) (by omega),bs,show((k+1:Nat):Int)+((pd2 x i j k).t:Int)=((k+1+1:Nat):Int)from rfl,zB,bs]) (fun acc=>by
  unfold zSA
  grind)
 rw[zBE]at this;exact this
theorem yDL(hi:i<x.zA.length)(ho:out.length<=2000):
  zG (zSB x (o1,((i+1:Nat):Int))) (out,((i+1+1:Nat):Int))=jd (out++(ups x.zA.length i).flatMap fun j=>(ups x.zA.length j).map fun k=>CPd (pd2 x i j k)):=by
 have hu:=zAc (i:=i) hn;have hf:=uX (c:=6) (f:=fun j=>(ups x.zA.length j).map fun k=>CPd (pd2 x i j k)) (by grind[zAc]) (ups x.zA.length i);have:=zAC (body:=zSB x (o1,((i+1:Nat):Int))) (i+1) (x.zA.length-(i+1)) 3000 (fun j=>(ups x.zA.length j).map fun k=>CPd (pd2 x i j k)) out (by grind[ups]) (fun j acc hj1 bm hb=>by
  unfold zSB;simp only
  rw[ji,zH,show((j+1:Nat):Int)+1=((j+1+1:Nat):Int)from by omega,zB,bs,yDK h hn (by omega) (by omega) (by omega),bs,bs]) (fun acc=>by
  unfold zSB
  grind)
 exact this
theorem yDM:zG (zSC x) ([],1)=jd ((Jd x.zA.length).flatMap fun i=>(ups x.zA.length i).flatMap fun j=>(ups x.zA.length j).map fun k=>CPd (pd2 x i j k)):=by
 have hf:=uX (c:=36) (f:=fun i=>(ups x.zA.length i).flatMap fun j=>(ups x.zA.length j).map fun k=>CPd (pd2 x i j k)) (fun i=>by
  have:=uX (c:=6) (f:=fun j=>(ups x.zA.length j).map fun k=>CPd (pd2 x i j k)) (by grind[zAc]) (ups x.zA.length i)
  grind[zAc]) (Jd x.zA.length)
 rw[Le]at hf;have:=zAC (body:=zSC x) 0 x.zA.length 2000 (fun i=>(ups x.zA.length i).flatMap fun j=>(ups x.zA.length j).map fun k=>CPd (pd2 x i j k)) [] (by grind[Ku]) (fun i acc aT eR hb=>by
  unfold zSC;simp only
  rw[ji,zH,show((i+1:Nat):Int)+1=((i+1+1:Nat):Int)from by omega,zB,bs,yDL h hn (by omega) (by omega),bs,bs]) (fun acc=>by
  unfold zSC
  grind)
 grind[Ku]
theorem yDN(hi:i<x.zA.length)(ho:out.length<=3000):
  zG (zSD x (o1,((i+1:Nat):Int))) (out,((i+1+1:Nat):Int))=jd (out++(ups x.zA.length i).map fun j=>CPd (pd1 x i j)):=by
 have hm:=((zAA (x:=x) (φ:=fun d=>d∈cps x)).1 fun d hd=>hd).2.1;have hu:=zAc (i:=i) hn;have:=zAC (body:=zSD x (o1,((i+1:Nat):Int))) (i+1) (x.zA.length-(i+1)) 4000 (fun j=>[CPd (pd1 x i j)]) out (by rw[zBE,Jf];rw[ups]at hu;omega) (fun j acc hj1 bm hb=>by
  have ho:=qM h (show j<x.zA.length by omega);unfold zSD;simp only
  have e:J1 (yC x j) ((j+1:Nat):Int)++[((i+1:Nat):Int)]=enW (pd1 x i j).wd:=by show _=enW (J1 (yC x j) j++[i]);simp only[enW,K6,List.map_replicate,Ju,La];rfl
  have et:((yC x j:Nat):Int)-1=((pd1 x i j).t:Int):=by show _=((yC x j-1:Nat):Int);omega
  rw[ji,zH,show((j+1:Nat):Int)-1=(j:Int)from by omega,zB (n:=(j:Int)),bs,ho.1,bs,zNc h (by omega),bs,zV (by simp only[Jk,J7,Jt];omega),bs,bs,ho.1,bs,zB (n:=((yC x j:Nat):Int)-1),bs,e,et,zEO h hn (hm i j (by omega) (by omega)) (by simp only[J7,Jt]at hb;omega),bs,show((j+1:Nat):Int)+1=((j+1+1:Nat):Int)from by omega,zB,bs]) (fun acc=>by
  unfold zSD;simp only
  rw[jh (by omega),zJ])
 rw[zBE]at this;exact this
theorem yDO(ho:out.length<=1000):zG (zSE x) (out,1)=jd (out++(Jd x.zA.length).flatMap fun i=>(ups x.zA.length i).map fun j=>CPd (pd1 x i j)):=by
 have hf:=uX (c:=6) (f:=fun i=>(ups x.zA.length i).map fun j=>CPd (pd1 x i j)) (by grind[zAc]) (Jd x.zA.length);rw[Le]at hf;have:=zAC (body:=zSE x) 0 x.zA.length 2000 (fun i=>(ups x.zA.length i).map fun j=>CPd (pd1 x i j)) out (by grind[Ku]) (fun i acc aT eR hb=>by
  unfold zSE;simp only
  rw[ji,zH,show((i+1:Nat):Int)+1=((i+1+1:Nat):Int)from by omega,zB,bs,yDN h hn (by omega) (by omega),bs,bs]) (fun acc=>by
  unfold zSE
  grind)
 grind[Ku]
theorem yDP(hi:i<x.zA.length)(ho:out.length<=3000):
  zG (zSF x (o1,((i+1:Nat):Int))) (out,((i+1+1:Nat):Int))=jd (out++(ups x.zA.length i).map fun j=>CPd (pd4 x i j)):=by
 have hm:=((zAA (x:=x) (φ:=fun d=>d∈cps x)).1 fun d hd=>hd).2.2.1;have hu:=zAc (i:=i) hn;have ho:=qM h hi;have:=zAC (body:=zSF x (o1,((i+1:Nat):Int))) (i+1) (x.zA.length-(i+1)) 4000 (fun j=>[CPd (pd4 x i j)]) out (by rw[zBE,Jf];grind) (fun j acc hj1 bm hb=>by
  unfold zSF;simp only
  have e:[((j+1:Nat):Int)]++J1 (yC x i) ((i+1:Nat):Int)=enW (pd4 x i j).wd:=by show _=enW (j::J1 (yC x i) i);simp
  rw[ji,zH,show((i+1:Nat):Int)-1=(i:Int)from by omega,zB (n:=(i:Int)),bs,ho.1,bs,zNc h hi,bs,zV (by simp only[Jk,J7,Jt];omega),bs,e,show(1:Int)=((pd4 x i j).t:Int)from rfl,zEO h hn (hm i j (by omega) (by omega)) (by simp only[J7,Jt]at hb;omega),bs,show((j+1:Nat):Int)+((pd4 x i j).t:Int)=((j+1+1:Nat):Int)from rfl,zB,bs]) (fun acc=>by
  unfold zSF
  grind)
 rw[zBE]at this;exact this
theorem yDQ(ho:out.length<=1000):zG (zSG x) (out,1)=jd (out++(Jd x.zA.length).flatMap fun i=>(ups x.zA.length i).map fun j=>CPd (pd4 x i j)):=by
 have hf:=uX (c:=6) (f:=fun i=>(ups x.zA.length i).map fun j=>CPd (pd4 x i j)) (by grind[zAc]) (Jd x.zA.length);rw[Le]at hf;have:=zAC (body:=zSG x) 0 x.zA.length 2000 (fun i=>(ups x.zA.length i).map fun j=>CPd (pd4 x i j)) out (by grind[Ku]) (fun i acc aT eR hb=>by
  unfold zSG;simp only
  rw[ji,zH,show((i+1:Nat):Int)+1=((i+1+1:Nat):Int)from by omega,zB,bs,yDP h hn (by omega) (by omega),bs,bs]) (fun acc=>by
  unfold zSG
  grind)
 grind[Ku]
theorem yDR(ho:out.length<=1000):zG (zSH x) (out,1)=jd (out++(Jd x.zA.length).map fun i=>CPd (pd3 x i)):=by
 have hm:=((zAA (x:=x) (φ:=fun d=>d∈cps x)).1 fun d hd=>hd).2.2.2;have:=zAC (body:=zSH x) 0 x.zA.length 2000 (fun i=>[CPd (pd3 x i)]) out (by rw[zBE,Jf,Qz];omega) (fun i acc aT eR hb=>by
  have ho:=qM h (show i<x.zA.length by omega);unfold zSH;simp only
  have e:J1 (yC x i+1) ((i+1:Nat):Int)=enW (pd3 x i).wd:=by show _=enW (J1 (yC x i+1) i);simp
  rw[ji,zH,show((i+1:Nat):Int)-1=(i:Int)from by omega,zB (n:=(i:Int)),bs,ho.1,bs,show((yC x i:Nat):Int)+1=((yC x i+1:Nat):Int)from by omega,zB (n:=((yC x i+1:Nat):Int)),bs,zSa h (by omega),bs,e,show(1:Int)=((pd3 x i).t:Int)from rfl,zEO h hn (hm i (by omega)) (by simp only[J7,Jt]at hb;omega),bs,show((i+1:Nat):Int)+((pd3 x i).t:Int)=((i+1+1:Nat):Int)from rfl,zB,bs]) (fun acc=>by
  unfold zSH
  grind)
 grind[zBE,Ku]
theorem zDQ:f_e x=jd ((cps x).map CPd):=by
 have hl:=zGB (x:=x) hn;have em:(cps x).map CPd=((Jd x.zA.length).flatMap fun i=>(ups x.zA.length i).flatMap fun j=>(ups x.zA.length j).map fun k=>CPd (pd2 x i j k))++(((Jd x.zA.length).flatMap fun i=>(ups x.zA.length i).map fun j=>CPd (pd1 x i j))++(((Jd x.zA.length).flatMap fun i=>(ups x.zA.length i).map fun j=>CPd (pd4 x i j))++(Jd x.zA.length).map fun i=>CPd (pd3 x i))):=by simp only[cps,K6,List.map_flatMap,Jb1];rfl
 have aQ:((cps x).map CPd).length<=300:=by grind
 rw[em]at aQ;simp only[J5]at aQ;unfold f_e;rw[yDM h hn,bs,yDO h hn (by omega),bs,yDQ h hn (by grind),bs,yDR h hn (by simp only[J5];omega),bs,em];simp
end
theorem yFq:yBU=zNH:=rfl
theorem yFr:yBV=zNH:=rfl
theorem sZ.get{x:SPr}:{ds:List PD}->{qs:List (Trc×Trc)}->sZ x ds qs-> ∀k(h1:k<ds.length)(h2:k<qs.length),(ds[k]).B x (qs[k]).1 (qs[k]).2
 | [],[],_,k,h1,_=>by simp at h1
 |d::ds,q::qs,h,0,_,_=>h.1
 |d::ds,q::qs,h,k+1,h1,h2=>by simpa using sZ.get h.2 k (by simpa using h1) (by simpa using h2)
 | [],_::_,h,_,_,_=>by grind
 |_::_,[],h,_,_,_=>by grind
theorem zSb{p:Int}{q:Nat}(hk:k<prs.length):kO p D m (prs.take (k+1)) q=kO p D m (prs.take k) q++prR p D m (prs[k]).1 (prs[k]).2 q:=by grind[kO,K5]
section
variable {x:SPr}{m:zE}{D:Nat} (hD:MOk x.zA.length m D)
 include hD
theorem yDS:zG (zSJ ⟨m.Prime,(D:Int),idM D⟩) (idM D,0)=jd (gl D fun _=>mkv D fun _=>0):=by
 have h3:=hD.d3;have:=zN (body:=zSJ ⟨m.Prime,(D:Int),idM D⟩) (r:=gl D fun _=>mkv D fun _=>0) (fun i=>(gl D fun a=>mkv D fun j=>if j=a then(if a<i then 0 else 1)else 0,(i:Int))) D (fun i hi=>by
  unfold zSJ;simp only
  rw[sH,yS hi,zH,zA6 hi,bs,yK (by grind[zU]),bs,zB,bs];simp only[J8];rw[zDK,sO]
  grind) (by
  unfold zSJ;simp only
  rw[sH,tQ,zJ]
  simp_all)
 have e:(gl D fun a=>mkv D fun j=>if j=a then(if a<0 then(0:Int)else 1)else 0)=idM D:=rfl
 grind
theorem yDT(hN:N<=100):zG (zPE m (N:Int)) ([],0)=jd (smx m.Prime D N fun _ _ _=>0):=by
 refine(wG (body:=zPE m (N:Int)) N (fun _=>zS.mk m.Prime (D:Int) (gl D fun _=>mkv D fun _=>0)) (fun i acc hi ha=>?_) (fun acc=>?_)).trans ?_
 ·unfold zPE
  simp only
  rw[yS hi,zH,hD.d,zAL hD.p (by have:=hD.d3;omega),bs]
  grind[yDS,zV,zB]
 ·unfold zPE
  simp
 ·rfl
section
variable {N:Nat}{G:Nat->Nat->Nat->Int}{R:Nat->List Int}
abbrev zEP(p:Int)(D:Nat)(G:Nat->Nat->Nat->Int)(R:Nat->List Int)(k:Nat):List Int:=R k++mkv D fun j=>G (k/D) (k%D) j%p
theorem yDU(hN:N<=100)(hR:∀k,(R k).length<=100000){r:Nat}(hr:r<N){z:Mx}:
  zG (zSK m (z,(r:Int)) ⟨m.Prime,(D:Int),gl D fun i=>mkv D fun j=>G r i j%m.Prime⟩) (gl (N*D) fun k=>if k<r*D then zEP m.Prime D G R k else R k,0)=jd (gl (N*D) fun k=>if k<(r+1)*D then zEP m.Prime D G R k else R k):=by
 have h3:=hD.d3;have h1:=hD.d1;have hb:(r+1)*D<=N*D:=Kb D (by omega);have ca:N*D<=100*3:=Jq hN h3;rw[K8]at hb;have:=zN (body:=zSK m (z,(r:Int)) ⟨m.Prime,(D:Int),gl D fun i=>mkv D fun j=>G r i j%m.Prime⟩) (r:=gl (N*D) fun k=>if k<(r+1)*D then zEP m.Prime D G R k else R k) (fun i=>(gl (N*D) fun k=>if k<r*D+i then zEP m.Prime D G R k else R k,(i:Int))) D (fun i hi=>by
  obtain⟨e1,e2⟩:=tY (q:=r) hi;unfold zSK;simp only
  rw[wK,yS hi,zH,zA6 hi,bs,hD.d,<-Up,zB,bs,<-Hn,zB,bs,zA6,bs,if_neg (by omega),zV (by rw[zU];have:=hR (r*D+i);omega),bs,zB,bs];simp only[J8];rw[zDK]
  grind) (by
  unfold zSK
  grind)
 exact this
theorem yDV(hN:N<=100)(hR:∀k,(R k).length<=100000):zG (zNH m ⟨x,m,smx m.Prime D N G⟩) (gl (N*D) R,0)=jd (gl (N*D) (zEP m.Prime D G R)):=by
 have gf:(smx m.Prime D N G).length=N:=wK;have:=zN (body:=zNH m ⟨x,m,smx m.Prime D N G⟩) (r:=gl (N*D) (zEP m.Prime D G R)) (fun i=>(gl (N*D) fun k=>if k<i*D then zEP m.Prime D G R k else R k,(i:Int))) N (fun i hi=>by
  unfold zNH;simp only
  rw[gf,yS hi,zH,smx,zA6 hi,bs,yDU hD hN hR hi,bs,zB,bs];rfl) (by
  unfold zNH
  simp_all)
 grind
end
end
theorem yDW(h:Pres x):∀d∈cps x,2<=d.wd.length/\((d.wd.getD 0 0=d.wd.getD 1 0/\d.wd.getD (d.wd.length-1) 0≠d.wd.getD 0 0/\d.t=d.wd.length-2)\/(d.wd.getD 0 0=d.wd.getD 1 0/\d.wd.getD (d.wd.length-1) 0=d.wd.getD 0 0/\d.t=1)\/(d.wd.getD 0 0≠d.wd.getD 1 0/\d.t=1)):=by
 refine zAA.2 ⟨fun i j k h1 h2 h3=>?_,fun i j h1 h2=>?_,fun i j h1 h2=>?_,fun i h1=>?_⟩
 ·refine⟨by simp[pd2],.inr (.inr ⟨?_,rfl⟩)⟩
  show k≠j;omega
 ·have o:=(qM h h2).2
  obtain⟨q,hq⟩:∃q,yC x j=q+2:=⟨yC x j-2,by omega⟩;simp only[pd1,hq,J5,Jk,J7,Jt];refine⟨by omega,.inl ⟨rfl,?_,by omega⟩⟩;have:(J1 (q+2) j++[i]).getD (q+2+(0+1)-1) 0=i:=by simp
  grind
 ·have o:=(qM h (show i<x.zA.length by omega)).2
  obtain⟨q,hq⟩:∃q,yC x i=q+2:=⟨yC x i-2,by omega⟩;simp only[pd4,hq,Jk,J7]
  grind
 ·have o:=(qM h h1).2
  obtain⟨q,hq⟩:∃q,yC x i=q+2:=⟨yC x i-2,by omega⟩;simp only[pd3,hq,Jk];simp
section
variable {x:SPr}{m:zE}{D:Nat} (h:Pres x) (hn:x.zA.length<=6) (hD:MOk x.zA.length m D)
 include h hn hD
theorem zYm(hq:sZ x (cps x) prs)(hk:k<(cps x).length)(hN:N=base x.zA.length x.zA.length):
  zSL x m (N:Int) ((cps x).map CPd) (gl (N*D) (fun q=>kO m.Prime D m (prs.take k) q),(k:Int))=jd (.inl (gl (N*D) (fun q=>kO m.Prime D m (prs.take (k+1)) q),((k+1:Nat):Int))):=by
 subst hN;have hl:=hq.len;have hd:=Js hk;have eZ:k<prs.length:=by omega
 have fx:=xY x.zA.length (by omega);have h3:=hD.d3;have h1:=hD.d1;have gy:=zGB (x:=x) hn;have eI:=zRY h hn hD hd (hq.get k hk eZ) (fun _ _ _=>0);obtain⟨w2,ht⟩:=yDW h _ hd;have hlw:=(zLa h hn _ hd).l;have eM:=(zLa h hn _ hd).ht;have hR:∀q,(kO m.Prime D m (prs.take k) q).length<=100000:=fun q=>by rw[zIa,Kd];have:min k prs.length*D<=300*3:=Jq (by omega) h3;omega
 have cy:=yDV (x:=x) (G:=zDf m D (-1) (zDf m D 1 (fun _ _ _=>0) (prs[k]).1) (prs[k]).2) hD (show base x.zA.length x.zA.length<=100 by omega) hR;have erow:gl (base x.zA.length x.zA.length*D) (zEP m.Prime D (zDf m D (-1) (zDf m D 1 (fun _ _ _=>0) (prs[k]).1) (prs[k]).2) (fun q=>kO m.Prime D m (prs.take k) q))=gl (base x.zA.length x.zA.length*D) fun q=>kO m.Prime D m (prs.take (k+1)) q:=kG fun q _=>by have hm:q%D<D:=Hu _ (by omega);rw[zSb eZ,zEP,zVm hm rfl,show q/D*D+q%D=q from by grind[Lw]]
 rw[erow]at cy;have hix:ixO ((cps x).map CPd) (k:Int)=jd (CPd (cps x)[k]):=by grind[zA1]
 generalize (cps x)[k]=d at*
 have key:∀K:yY->Option ((Mx×Int)⊕Mx),((f_r ⟨x,m,smx m.Prime D (base x.zA.length x.zA.length) fun _ _ _=>0⟩ (enW d.wd) 0 1).bind fun r=>(f_L r.2 r.1 1).bind fun k2=>(f_r k2 (enW d.wd) (d.t:Int) (-1)).bind fun r3=>(f_L r3.2 r3.1 (-1)).bind K)=K ⟨x,m,smx m.Prime D (base x.zA.length x.zA.length) (zDf m D (-1) (zDf m D 1 (fun _ _ _=>0) (prs[k]).1) (prs[k]).2)⟩:=fun K=>by have e:=congrArg (fun o=>U0 o K) eI;simp only[Option.bind_assoc,bs]at e;exact e
 unfold zSL;simp only
 rw[Jf,yS hk,zH,hix,bs,yDT hD (by omega),bs];simp only[CPd];have i0:=tS (w:=d.wd) (t:=0);have i1:=tS (w:=d.wd) (t:=1);have il:=tS (w:=d.wd) (t:=d.wd.length-1);rw[show((0:Nat):Int)=0 from rfl]at i0;rw[show((1:Nat):Int)=1 from rfl]at i1;rw[i0,bs,i1,bs,Jf];rcases ht with⟨t1,t2,t3⟩|⟨t1,t2,t3⟩|⟨t1,t3⟩
 ·rw[show((((d.wd.getD 0 0:Nat):Int)+1)==(((d.wd.getD 1 0:Nat):Int)+1))=jf from by grind,zH,zB,bs,show(d.wd.length:Int)-1=((d.wd.length-1:Nat):Int)from by omega,il,bs,show((((d.wd.getD (d.wd.length-1) 0:Nat):Int)+1) != (((d.wd.getD 0 0:Nat):Int)+1))=jf from by rw[bne_iff_ne];omega,zH,zB,bs,show(d.wd.length:Int)-2=(d.t:Int)from by omega,key,cy,bs,zB,bs]
  rfl
 ·rw[show((((d.wd.getD 0 0:Nat):Int)+1)==(((d.wd.getD 1 0:Nat):Int)+1))=jf from by grind,zH,zB,bs,show(d.wd.length:Int)-1=((d.wd.length-1:Nat):Int)from by omega,il,bs,show((((d.wd.getD (d.wd.length-1) 0:Nat):Int)+1) != (((d.wd.getD 0 0:Nat):Int)+1))=jg from by rw[t2];exact bne_self_eq_false _,zJ]
  rw[t3]at key;rw[show(1:Int)=((1:Nat):Int)from rfl]at*
  rw[key,yFq,cy,bs,zB,bs];rfl
 ·rw[show((((d.wd.getD 0 0:Nat):Int)+1)==(((d.wd.getD 1 0:Nat):Int)+1))=jg from by grind,zJ]
  rw[t3]at key;rw[show(1:Int)=((1:Nat):Int)from rfl]at*
  rw[key,yFr,cy,bs,zB,bs];rfl
end
section
variable {x:SPr}{m:zE}{D:Nat} (hx:zA2 x) (hD:MOk x.zA.length m D)
 include hx hD
theorem zIB(hc:xC (suf x 0))(hr:zF0 x m D):∃K pk,f_n x m=jd K/\f_f x m=jd K/\Red m.Prime (base x.zA.length x.zA.length*D) K pk:=by
 have h6:=hx.n6;have h3:=hD.d3;have h1:=hD.d1;have fx:=xY x.zA.length (by omega);have hbD:base x.zA.length x.zA.length*D<=21*3:=Jq fx.2.1 h3;obtain⟨prs,hq⟩:=yB3 hx hD;have hl:=hq.len;have gy:=zGB (x:=x) h6;have eU:=zN (body:=zSL x m ((base x.zA.length x.zA.length:Nat):Int) ((cps x).map CPd)) (r:=gl (base x.zA.length x.zA.length*D) (fun q=>kO m.Prime D m prs q)) (fun k=>(gl (base x.zA.length x.zA.length*D) (fun q=>kO m.Prime D m (prs.take k) q),(k:Int))) (cps x).length (fun k hk=>zYm hx.toPres h6 hD hq hk rfl) (by
  unfold zSL
  grind)
 have e0:gl (base x.zA.length x.zA.length*D) (fun q=>kO m.Prime D m (prs.take 0) q)=J1 (base x.zA.length x.zA.length*D) ([]:List Int):=by simp only[Kc,kO,La,Uz];rw[List.eq_replicate_iff];simp
 rw[e0]at eU;have m6:f_f x m=cond (decide (((gl (base x.zA.length x.zA.length*D) (fun q=>kO m.Prime D m prs q)).length:Int)> 0)) (
   (ixO (gl (base x.zA.length x.zA.length*D) (fun q=>kO m.Prime D m prs q)) 0).bind fun v32=>(f_Z m.Prime (gl (base x.zA.length x.zA.length*D) (fun q=>kO m.Prime D m prs q)) (v32.length:Int)).bind fun r33=>jd r33) (
   (f_Z m.Prime (gl (base x.zA.length x.zA.length*D) (fun q=>kO m.Prime D m prs q)) 0).bind fun r34=>jd r34):=by
  unfold f_f;rw[zHE rfl h6,bs,hD.d,<-Up,zB,bs,yH,bs,zDQ hx.toPres h6,bs]
  grind
 rcases Jaw x.zA.length with h0|h0
 ·obtain⟨K,pk,k1,k2,k3⟩:=zOV h0 hD
  grind
 ·obtain⟨K,pk,k1,k2,_⟩:=zAB hx hD h0 hc hr
  obtain⟨K2,j1,j2⟩:=zNb hx hD h0 hc hr hq;rw[k1]at j1;cases j1;refine⟨K,pk,k1,?_,k2⟩;have pC:0<base x.zA.length x.zA.length*D:=Nat.mul_pos (by omega) h1;rw[m6,wK,ji,zH,show(0:Int)=((0:Nat):Int)from rfl,zA6 pC,bs,zIa,j2,bs]
end
theorem zVn{n:Nat}{v:List Int}(hD:1<=D)(hl:v.length=n*D):(zGo n D v).flatten=v:=by
 have hF:∀i:Nat,(mkv D fun j=>at0 v (i*D+j)).length=D:=fun i=>zU _ _
 have h1:(zGo n D v).flatten.length=n*D:=by have:=zFE (F:=fun i=>mkv D fun j=>at0 v (i*D+j)) hF (Jd n);rw[Le]at this;exact this
 refine(vE h1).trans (((zX fun k hk=>?_)).trans (vE hl).symm);have hi:k/D<n:=(H7 (by omega)).2 hk;have hm:k%D<D:=Hu _ (by omega);have e:=zEM (F:=fun i=>mkv D fun j=>at0 v (i*D+j)) hF (Jd n) (k/D) (k%D) (by grind) hm;rw[show k/D*D+k%D=k from by grind[Lw]]at e;rw[List.getElem_range,zW hm,show k/D*D+k%D=k from by grind[Lw]]at e;exact e
section
variable {x:SPr}{m:zE}{D:Nat} (hx:zA2 x) (hD:MOk x.zA.length m D)
 include hx hD
theorem zJD:∃R pv,zPB x m=jd R/\Red m.Prime (base x.zA.length x.zA.length*D) R pv/\base x.zA.length x.zA.length*D<=63/\ ∀v,Row m.Prime (base x.zA.length x.zA.length*D) v->
  Row m.Prime (base x.zA.length x.zA.length*D) (cl m.Prime (base x.zA.length x.zA.length*D) R pv v R.length)/\zSt m.Prime R v=jd (cl m.Prime (base x.zA.length x.zA.length*D) R pv v R.length)/\
  zWK x m v=jd (zGo (base x.zA.length x.zA.length) D (cl m.Prime (base x.zA.length x.zA.length*D) R pv v R.length)):=by
 have h3:=hD.d3;obtain⟨R,pv,r1,r2,r3,r4,r5,r6⟩:=zON hx hD;refine⟨R,pv,r1,r4,r6,fun v hv=>?_⟩;have gy:=zKE hD.p (by omega) r4 hv R.length;refine⟨gy,zHB hD.p (by omega) r4 hv (by omega),?_⟩;unfold zWK yBT;rw[r2,bs,r3,bs,bs,zHF hD.p (by omega) r4 hv (by omega),bs,hD.d,zHI hD.d1 gy.1,bs]
theorem zOW{v:List Int}(hv:Row m.Prime (base x.zA.length x.zA.length*D) v):f_t (zGo (base x.zA.length x.zA.length) D v)=jd v:=by have h6:=hx.n6;have h3:=hD.d3;have hb:=xY x.zA.length (by omega);have aA:base x.zA.length x.zA.length*D<=21*3:=Jq hb.2.1 h3;have e:=zVn hD.d1 hv.1;rw[qO (by grind[zGo]) (by rw[e,hv.1];omega),e]
theorem zLb(hc:xC (suf x 0))(hr:zF0 x m D):∃C pc K rows,zWR x m=jd C/\f_f x m=jd K/\zG (zNI x m K) ([],0)=jd rows/\f_i m.Prime rows=jd C/\Red m.Prime (base x.zA.length x.zA.length*D) C pc/\base x.zA.length x.zA.length*D<=63:=by
 obtain⟨R,pv,r1,r2,r3,r4⟩:=zJD hx hD;obtain⟨K,pk,k1,k2,k3⟩:=zIB hx hD hc hr;have hK:=k3.len_le;have hl:(gl K.length fun i=>cl m.Prime (base x.zA.length x.zA.length*D) R pv (K.getD i []) R.length).length=K.length:=wK;obtain⟨C,pc,c1,c2,c3,_⟩:=sK hD.p (n:=base x.zA.length x.zA.length*D) (rows:=gl K.length fun i=>cl m.Prime (base x.zA.length x.zA.length*D) R pv (K.getD i []) R.length) (by omega) (by omega) (fun i hi=>by rw[hl]at hi;rw[xI hi];exact(r4 _ (k3.row i hi)).1)
 refine⟨C,pc,K,_,?_,k2,?_,c2,c3,r3⟩
 ·unfold zWR
  rw[r1,bs,k1,bs,wG (body:=zGg m R K) K.length (fun i=>cl m.Prime (base x.zA.length x.zA.length*D) R pv (K.getD i []) R.length) (fun i acc hi ha=>by
   unfold zGg;simp only
   rw[yS hi,zH,yA [] hi,bs,(r4 _ (k3.row i hi)).2.1,bs,zV (by simp only[J7,Jt];omega),bs,zB,bs];rfl) (fun acc=>by
   unfold zGg;simp),bs]
  grind
 ·exact wG (body:=zNI x m K) K.length (fun i=>cl m.Prime (base x.zA.length x.zA.length*D) R pv (K.getD i []) R.length) (fun i acc hi ha=>by
   unfold zNI;simp only
   rw[yS hi,zH,yA [] hi,bs,(r4 _ (k3.row i hi)).2.2,bs,zOW hx hD (r4 _ (k3.row i hi)).1,bs,zV (by simp only[J7,Jt];omega),bs,zB,bs];rfl) (fun acc=>by
   unfold zNI;simp)
end
def zIC(x:SPr):Prop:=0<x.zA.length/\ ∀i,i<x.zA.length->at0 x.zA i=at0 x.zA 0
theorem zNd(h0:0<x.zA.length)(hl:x.zA.length<=1048576){f:Option Bool}{body:Int->Option (Int⊕(Unit⊕Bool))}(hf:f=(zG body 0).bind fun r=>match r with|.inl _=>jd jf|.inr r=>jd r)
  (hb:∀s,body s=cond (decide (s<(x.zA.length:Int))) ((ixO x.zA s).bind fun v2=>(ixO x.zA 0).bind fun v3=>cond (v2 != v3) (jd (.inr (.inr jg))) ((rng (s+1)).bind fun v4=>jd (.inl v4))) (jd (.inr (.inl ())))):IsB f (zIC x):=by
 refine(zDF (body:=body) x.zA.length (fun i=>at0 x.zA i=at0 x.zA 0) hf (fun i hi _=>?_) ?_).iff ⟨fun g=>⟨h0,g⟩,fun g=>g.2⟩
 ·rw[hb,yS hi,zH,yK hi,bs,show(0:Int)=((0:Nat):Int)from rfl,yK h0,bs]
  by_cases g:at0 x.zA i=at0 x.zA 0
  ·rw[zCq g,zJ,zB,bs]
   grind
  grind
 grind
theorem zID(hl:x.zA.length<=1048576):IsB (zYJ x) (uK x/\zIC x):=by
 unfold zYJ;rcases zH5 hl with⟨h1,h2⟩|⟨h1,h2⟩
 ·rw[h1,bs,L5,zJ]
  by_cases h0:0<x.zA.length
  ·rw[show(((x.zA.length:Nat):Int)==0)=jg from by grind,zJ]
   exact(zNd h0 hl rfl (fun _=>rfl)).iff (by grind)
  ·rw[show(((x.zA.length:Nat):Int)==0)=jf from by grind,zH]
   exact .inr ⟨rfl,fun g=>h0 g.2.1⟩
 ·rw[h1,bs,H5,zH]
  exact .inr (by grind)
theorem zIE(hl:x.zA.length<=1048576):IsB (zYM x) (uK x/\zIC x):=by
 unfold zYM;rcases zA3 hl with⟨h1,h2⟩|⟨h1,h2⟩
 ·rw[h1,bs,L5,zJ]
  by_cases h0:0<x.zA.length
  ·rw[show(((x.zA.length:Nat):Int)==0)=jg from by grind,zJ]
   exact(zNd h0 hl rfl (fun _=>rfl)).iff (by grind)
  ·rw[show(((x.zA.length:Nat):Int)==0)=jf from by grind,zH]
   exact .inr ⟨rfl,fun g=>h0 g.2.1⟩
 ·rw[h1,bs,H5,zH]
  exact .inr (by grind)
theorem zIe(hx:zA2 x){body:Int×Int->Option ((Int×Int)⊕Int)}
  (hb:∀s:Int×Int,body s=cond (decide (s.2<(x.zA.length:Int))) ((ixO x.zA s.2).bind fun v1=>(rng (s.1*v1)).bind fun v2=>(rng (s.2+1)).bind fun v3=>jd (.inl (v2,v3))) (jd (.inr s.1))):zG body (1,0)=jd (pr x.zA x.zA.length):=by
 have h6:=hx.n6;have hP:∀j,j<x.zA.length->Prime (at0 x.zA j):=fun j hj=>hx.os.2 j hj
 exact zN (body:=body) (r:=pr x.zA x.zA.length) (fun i=>(pr x.zA i,(i:Int))) x.zA.length (fun i hi=>by
  have e1:=zK4 hP (x.zA.length-(i+1)) (by omega);rw[show x.zA.length-(x.zA.length-(i+1))=i+1 from by omega]at e1;have e2:=zFt (os:=x.zA) (i:=i+1) (by grind);have e3:=hx.pr;simp only[pr]at e1 e2;rw[hb];simp only
  rw[yS hi,zH,yK hi,bs,zB (n:=pr x.zA i*at0 x.zA i),bs,zB,bs];rfl) (by
  grind)
theorem zOX(hl:x.zA.length<=1048576):∃c,zYK x=jd c/\zYN x=jd c/\(c=0->uK x/\zIC x):=by
 unfold zYK zYN;rcases(zH5 hl).both (zA3 hl)with⟨s1,i1,hc⟩|⟨s1,i1,_⟩
 ·rw[s1,i1,bs,bs,L5,zJ,zJ]
  rcases(zID hl).both (zIE hl)with⟨s2,i2,hp⟩|⟨s2,i2,_⟩
  ·rw[s2,i2,bs,bs,L5,zJ,zJ]
   unfold yBW yBX;rw[zIe hc.2.2 (body:=zWQ x) (fun _=>rfl),zIe hc.2.2 (body:=zWS x) (fun _=>rfl)];simp only[bs]
   by_cases g:pr x.zA x.zA.length> 81
   ·simp_all
   ·rw[jh g,zJ]
    grind
  simp_all
 simp_all
def xN(q:Int)(D n:Nat):zE:=⟨q,(D:Int),gl n fun _=>idM D⟩
theorem qP{n:Nat}(h:i<n):(xN q D n).zL.getD i []=idM D:=by rw[xN,J2,J3 (by grind)];simp[gl]
theorem zJE(hq:Prime q)(h6:x.zA.length<=6)(hD:D<=8:=by omega):f_T x q (D:Int)=jd (xN q D x.zA.length):=by
 unfold f_T;rw[wG (body:=zLs x (D:Int)) x.zA.length (fun _=>idM D) (fun i acc hi ha=>by
  unfold zLs;simp only
  rw[yS hi,zH,zO3 hq hD,bs,zV (by grind),bs,zB,bs];rfl) (fun acc=>by
  unfold zLs;simp),bs]
 rfl
theorem zOY(hq:Prime q)(h6:x.zA.length<=6)(hD:D<=8:=by omega):zPF x q (D:Int)=jd (xN q D x.zA.length):=by
 unfold zPF;rw[wG (body:=zGh x q (D:Int)) x.zA.length (fun _=>idM D) (fun i acc hi ha=>by
  unfold zGh;simp only
  rw[yS hi,zH,zAL hq hD,bs,zV (by grind),bs,zB,bs];rfl) (fun acc=>by
  unfold zGh;simp),bs]
 rfl
theorem zEQ{n:Nat}(hq:Prime q)(h1:1<=D:=by omega)(h3:D<=3:=by omega):MOk n (xN q D n) D:=
 ⟨hq,rfl,h1,h3,wK,fun i hi=>by rw[qP hi];exact tJ hq.pos.1⟩
theorem zBr{q:Int}{D n:Nat}:∀(w:List Nat){B:Mx},Mat q D B->(∀a∈w,a<n)->wM q D (xN q D n).zL w B=B
 | [],_,_,_=>rfl
 |a::w,B,hB,hw=>by show wM q D (xN q D n).zL w (PM q D B ((xN q D n).zL.getD a []))=B;rw[qP (hw a (by simp)),zCy hB];exact zBr w hB (by grind)
theorem zC7(h:Pres x)(hq:Prime q):zF0 x (xN q D x.zA.length) D:=by
 have hI:Mat q D (idM D):=tJ hq.pos.1;intro i hi;refine⟨?_,fun j hj1 bm=>?_⟩
 ·show wM q D _ _ _=wM q D _ _ _
  rw[zBr _ hI (by grind),zBr _ hI fun a ha=>((uW h (sQ h hi) hi).2 a ha).2]
 ·show PM q D _ _=PM q D _ (wM q D _ _ _)
  have:=uW h (uC h (show i<j by omega) bm) hi;rw[qP hi,qP bm,zBr _ hI (by grind)]
theorem zIF(hc:uK x)(hp:zIC x):∃C pc,zIw x=jd C/\zYO x=jd C/\Red (at0 x.zA 0) (base x.zA.length x.zA.length) C pc/\base x.zA.length x.zA.length<=21:=by
 have h6:=hc.2.2.n6;have hq:=hc.1.os.2 0 hp.1;have hb:=xY x.zA.length (by omega);obtain⟨C,pc,K,rows,c1,c2,c3,c4,c5,_⟩:=zLb (m:=xN (at0 x.zA 0) 1 x.zA.length) hc.2.2 (by grind[zEQ]) hc.2.1 (zC7 hc.1 hq);rw[Ly]at c5;refine⟨C,pc,?_,?_,c5,hb.2.1⟩
 ·unfold zIw zYL
  rw[show(0:Int)=((0:Nat):Int)from rfl,yK hp.1,bs,show(1:Int)=((1:Nat):Int)from rfl,zJE hq h6,bs,bs,c1,bs]
 ·unfold zYO
  rw[show(0:Int)=((0:Nat):Int)from rfl,yK hp.1,bs,show(1:Int)=((1:Nat):Int)from rfl,zOY hq h6,bs,c2,bs];have e:zWT=zNI:=rfl
  grind
theorem zJF:(J1 D (0:Int)).set i 1=mkv D fun j=>if j=i then 1 else 0:=by rw[uB,sO]
theorem zOZ(hD:D<=1000):f_v (D:Int)=jd (idM D):=by
 unfold f_v;rw[wG (body:=zEX (D:Int)) D (fun i=>mkv D fun j=>if j=i then 1 else 0) (fun i acc hi ha=>by
  unfold zEX;simp only
  rw[yS hi,zH,yH,bs,vD,K4,if_pos hi,bs,J8,zJF,zV (by grind),bs,zB,bs];rfl) (fun acc=>by
  unfold zEX;simp),bs]
 rfl
theorem zIf{p:Int}(hD:D<=1000):f_O p (D:Int)=jd (zS.mk p (D:Int) (idM D)):=by
 unfold f_O;rw[wG (body:=zLo (D:Int)) D (fun i=>mkv D fun j=>if j=i then 1 else 0) (fun i acc hi ha=>by
  unfold zLo;simp only
  rw[yS hi,zH,yH,bs,vD,K4,if_pos hi,bs,J8,zJF,zV (by grind),bs,zB,bs];rfl) (fun acc=>by
  unfold zLo;simp),bs]
 rfl
theorem zPa(h6:x.zA.length<=6)(hD:D<=1000:=by omega):f_T x q (D:Int)=jd (xN q D x.zA.length):=by
 unfold f_T;rw[wG (body:=zLs x (D:Int)) x.zA.length (fun _=>idM D) (fun i acc hi ha=>by
  unfold zLs;simp only
  rw[yS hi,zH,zOZ hD,bs,zV (by grind),bs,zB,bs];rfl) (fun acc=>by
  unfold zLs;simp),bs]
 rfl
theorem zPb(h6:x.zA.length<=6)(hD:D<=1000:=by omega):zPF x q (D:Int)=jd (xN q D x.zA.length):=by
 unfold zPF;rw[wG (body:=zGh x q (D:Int)) x.zA.length (fun _=>idM D) (fun i acc hi ha=>by
  unfold zGh;simp only
  rw[yS hi,zH,zIf hD,bs,zV (by grind),bs,zB,bs];rfl) (fun acc=>by
  unfold zGh;simp),bs]
 rfl
theorem zIg{n:Nat}(hq:Prime q)(h3:D<=30:=by omega):yAY n (xN q D n) D:=
 ⟨hq,rfl,h3,wK,fun i hi=>by rw[qP hi];exact tJ hq.pos.1⟩
def kI(N:Nat)(C:Mx):Mx:=gl N fun i=>mkv C.length fun j=>at0 (C.getD j []) i
theorem zNe{body:List Int×Int->Option ((List Int×Int)⊕List Int)}(n:Nat)(F:Nat->Int)(h:∀i acc,i<n->acc.length=i->body (acc,(i:Int))=jd (.inl (acc++[F i],((i+1:Nat):Int))))(he:∀acc,body (acc,(n:Int))=jd (.inr acc)):
  zG body ([],0)=jd (mkv n F):=wG n F h he
section
variable {q:Int}{N:Nat}{C:Mx} (hC:∀i,i<C.length->Row q N (C.getD i [])) (hl:C.length<=1000)
 include hC hl
theorem zSc(h6:x.zA.length<=6)(hN:N=base x.zA.length x.zA.length):f_U x C=jd (kI N C):=by
 have hb:=xY x.zA.length (by omega);unfold f_U;rw[wG (body:=zWV x C) N (fun i=>mkv C.length fun j=>at0 (C.getD j []) i) (fun i acc hi ha=>by
  unfold zWV;simp only
  rw[zB7 rfl h6,bs,<-hN,yS hi,zH,zNe (body:=zWU C (acc,(i:Int))) C.length (fun j=>at0 (C.getD j []) i) (fun j acc2 hj ha2=>by
   unfold zWU;simp only
   rw[yS hj,zH,yA [] hj,bs,yK (by rw[(hC j hj).1];exact hi),bs,zV (by simp only[J7,Jt];omega),bs,zB,bs];rfl) (fun acc2=>by
   unfold zWU;simp),bs,zV (by simp only[J7,Jt];omega),bs,zB,bs]
  rfl) (fun acc=>by
  unfold zWV;simp only
  rw[zB7 rfl h6,bs,<-hN,tQ,zJ]),bs]
 rfl
theorem zSd(hN:N<=1000):zG (zSM C (N:Int)) ([],0)=jd (kI N C):=
 wG (body:=zSM C (N:Int)) N (fun i=>mkv C.length fun j=>at0 (C.getD j []) i) (fun i acc hi ha=>by
  unfold zSM;simp only
  rw[yS hi,zH,zNe (body:=zWW C (acc,(i:Int))) C.length (fun j=>at0 (C.getD j []) i) (fun j acc2 hj ha2=>by
   unfold zWW;simp only
   rw[yS hj,zH,yA [] hj,bs,yK (by rw[(hC j hj).1];exact hi),bs,zV (by simp only[J7,Jt];omega),bs,zB,bs];rfl) (fun acc2=>by
   unfold zWW;simp),bs,zV (by simp only[J7,Jt];omega),bs,zB,bs]
  rfl) (fun acc=>by
  unfold zSM;simp)
end
theorem zC8{C:Mx}:(kI N C).length=N:=wK
theorem zVo{C:Mx}(i:Nat):((kI N C).getD i []).length<=C.length:=zOF (fun j hj=>by rw[zC8]at hj;rw[kI,xI hj,zU];simp) i
theorem zGC{p:Int}{r:List Int}(hr:Row p D r):xK p D r (idM D)=r:=by rw[xK];refine Eq.trans (zX fun j hj=>?_) (vE hr.1).symm;rw[kF (k:=j) hj fun l hl gc=>by rw[ent,zA4 hl,zW hj,if_neg (fun h=>gc h.symm),Ln],ent,zA4 hj,zW hj,if_pos rfl,L6];exact tO (hr.2 j hj)
theorem zVp{n a:Nat}{v:List Int}(ha:a<n)(hv:Row q D v):stp (xN q D n) D u v a=uN q D v 1 (u.getD a []):=by
 show uN q D (xK q D v ((xN q D n).zL.getD a [])) 1 (u.getD a [])=_
 grind[qP,zGC]
section
variable {q:Int} (hq:Prime q) {n D c:Nat} (hc:c<D)
 include hq hc
theorem yDX{v:List Int}(hv:Row q D v):Row q 1 (mkv 1 fun _=>at0 v c):=⟨zU _ _,fun i hi=>by have _:=hq;rw[zW hi];exact hv.2 c hc⟩
end
theorem yB5(h:Pres x):∀rel∈wL x,(∀a∈rel.1,a<x.zA.length)/\ ∀a∈rel.2,a<x.zA.length:=by
 intro rel hr;simp only[wL,Ja,Jc,Li,Lh,R2]at hr;rcases hr with⟨i,hi,rfl⟩|⟨i,hi,j,hj,rfl⟩
 ·exact⟨fun a ha=>by rw[H1 ha];exact hi,fun a ha=>((uW h (sQ h hi) hi).2 a ha).2⟩
 ·have hl:=(h.tl i hi).2.1
  have tj:=(h.tl i hi).2.2 j hj;refine⟨fun a ha=>?_,fun a ha=>?_⟩
  ·simp only[r2,J9,G9,or_false]at ha
   omega
  ·simp only[r2,J9]at ha
   rcases ha with rfl|ha
   ·exact hi
   ·exact((uW h tj hi).2 a ha).2
theorem yDY(hk:k<D)(hD:D<=1000000:=by omega):zVK (D:Int) (k:Int)=jd (wZ D k):=qE hk hD
theorem fv0(v:Vec):fv 0 v=v:=by simp[zeros]
section
variable {x:SPr} (h:Pres x) (hc:xC (suf x 0))
 include h hc
theorem g0:Grp (V (suf x 0)) (mul (suf x 0)) (zeros (suf x 0).length):=zCt h (by omega) hc
theorem ok0:Pc.Ok (suf x 0):=by have _:=hc;exact h.okAt (by omega)
theorem zBs{v:Vec}(hv:V (suf x 0) v):v.length=x.zA.length:=by
 have _:=hc;have:=zAK h (k:=0) (by omega) hv
 rwa [fv0]at this
theorem yDZ{b:Vec}(ha:V (suf x 0) a)(hb:V (suf x 0) b):zLn x a b=jd (mul (suf x 0) a b):=by have:=zDq h (k:=0) (by omega) hc ha hb;simpa only[fv0]using this
theorem tv0{b:Vec}(ha:V (suf x 0) a)(hb:V (suf x 0) b):f_c x a b=jd (mul (suf x 0) a b):=by have:=zE0 h (k:=0) (by omega) hc ha hb;simpa only[fv0]using this
theorem zYn(eL:V (suf x 0) c)(e0:0<=e)(e1:e<=1000):f_Y x c e=jd (pw (mul (suf x 0)) (zeros (suf x 0).length) c e.toNat):=by have:=zH2 h (k:=0) (by omega) hc eL e0 e1;simpa only[fv0]using this
theorem zZT{b:Vec}(ha:V (suf x 0) a)(hb:V (suf x 0) b):∃w,V (suf x 0) w/\mul (suf x 0) (mul (suf x 0) b a) w=mul (suf x 0) a b/\zNL x a b=jd w:=by
 have ok:=ok0 h hc;have G:=g0 h hc;obtain⟨i,i1,i2,i3⟩:=zFY h (k:=0) (by omega) hc ha;obtain⟨c,c1,c2,c3⟩:=qS h (k:=0) (by omega) hc ha hb;simp only[fv0]at i3 c3;refine⟨mul (suf x 0) i c,yO ok i1 c1,?_,?_⟩
 ·rw[G.assoc hb ha (yO ok i1 c1),<-G.assoc ha i1 c1,i2,G.onel c1,c2]
 ·unfold zNL
  rw[i3,bs,c3,bs,yDZ h hc i1 c1,bs]
theorem zIh{b:Vec}(ha:V (suf x 0) a)(hb:V (suf x 0) b):zIM x a b=jd (mul (suf x 0) a b):=by have _:=hc;have:=zEy h (k:=0) (by omega) a b ha hb;unfold zIM;rw[show f_a x 0 a b=jd (mul (suf x 0) a b)from by simpa[zeros]using this,bs]
theorem zZU(eL:V (suf x 0) c)(e0:0<=e)(e1:e<=1000):zNr x 0 c e=jd (pw (mul (suf x 0)) (zeros (suf x 0).length) c e.toNat):=by
 have h6:=h.os.1;have ok:=ok0 h hc;have G:=g0 h hc;have hA:∀a b,V (suf x 0) a->V (suf x 0) b->f_a x 0 a b=jd (mul (suf x 0) a b):=fun a b ha hb=>by have:=zEy h (k:=0) (by omega) a b ha hb;simpa[zeros]using this
 have pwV:∀a,V (suf x 0) (pw (mul (suf x 0)) (zeros (suf x 0).length) c a):=fun a=>wS G.toMon eL a
 unfold zNr;rw[yH,bs,zMt h (k:=0) (by omega),fv0];obtain⟨r,r1,r2⟩:=vX (body:=zJK x 0) (Q:=fun r=>r=pw (mul (suf x 0)) (zeros (suf x 0).length) c e.toNat)
  (fun s=> ∃(m a q:Nat),s=((m:Int),pw (mul (suf x 0)) (zeros (suf x 0).length) c a,pw (mul (suf x 0)) (zeros (suf x 0).length) c q)/\a+q*m=e.toNat/\m<=1000) (fun s=>s.1.toNat) (fun s hs=>by
   obtain⟨m,a,q,rfl,he,hm⟩:=hs;unfold zJK;simp only
   by_cases dv:m=0
   ·right
    subst dv;rw[show decide (((0:Nat):Int)> 0)=jg from rfl,zJ];refine⟨_,rfl,?_⟩;rw[<-he,Nat.mul_zero];rfl
   ·left
    have hr:vA (m:Int) 2=jd ((m%2:Nat):Int):=by unfold vA;rw[if_neg (by decide),Hg (by omega)];rfl
    have hq:vK (m:Int) 2=jd ((m/2:Nat):Int):=by unfold vK;rw[if_neg (by decide),Int.tdiv_eq_ediv_of_nonneg (by omega)];rw[zB];rfl
    have mA:mul (suf x 0) (pw (mul (suf x 0)) (zeros (suf x 0).length) c q) (pw (mul (suf x 0)) (zeros (suf x 0).length) c q)=pw (mul (suf x 0)) (zeros (suf x 0).length) c (q+q):=(zAJ G.toMon eL q q).symm;rw[ji,zH,hr,bs];rcases Nat.mod_two_eq_zero_or_one m with h2|h2
    ·rw[h2,show((((0:Nat):Int))==1)=jg from rfl,zJ,hA _ _ (pwV q) (pwV q),bs,hq,bs,mA]
     refine⟨_,rfl,⟨m/2,a,q+q,rfl,?_,by omega⟩,by simp only;omega⟩;rw[<-he];have:m=m/2+m/2:=by omega
     have e3:(q+q)*(m/2)=q*m:=by rw[Hv,<-Qr,<-this]
     omega
    ·rw[h2,show((((1:Nat):Int))==1)=jf from rfl,zH,hA _ _ (pwV a) (pwV q),bs,hA _ _ (pwV q) (pwV q),bs,hq,bs,mA,<-zAJ G.toMon eL a q]
     refine⟨_,rfl,⟨m/2,a+q,q+q,rfl,?_,by omega⟩,by simp only;omega⟩;rw[<-he];have:m=m/2+m/2+1:=by omega
     have e3:(q+q)*(m/2)+q=q*m:=by
      have e4:q*m=q*(m/2+m/2+1):=by rw[<-this]
      rw[e4,Qr,Qr,Ly,Hv]
     omega) 1000000 (e,(zeros (suf x 0).length),c) (by simp only;omega) ⟨e.toNat,0,1,by rw[zK2 G.toMon eL,show((e.toNat:Nat):Int)=e from by omega];rfl,by omega,by omega⟩
 rw[r1,bs,r2]
theorem zVq(eL:V (suf x 0) c)(e0:0<=e)(e1:e<=1000):zIy x c e=jd (pw (mul (suf x 0)) (zeros (suf x 0).length) c e.toNat):=by unfold zIy;rw[jh (by omega),zJ,zZU h hc eL e0 e1,bs]
theorem yEa(eL:V (suf x 0) c)(e0:0<e)(e1:e<=1000):∃u,V (suf x 0) u/\mul (suf x 0) c u=(zeros (suf x 0).length)/\zIy x c (-e)=jd (pw (mul (suf x 0)) (zeros (suf x 0).length) u e.toNat):=by obtain⟨u,u1,u2,u3⟩:=zHH h hc eL;refine⟨u,u1,u2,?_⟩;unfold zIy;rw[ji,zH,u3,bs,zB,bs,show(0:Int)- -e=e from by omega,zZU h hc u1 (by omega) e1,bs]
theorem zVr{b:Vec}(ha:V (suf x 0) a)(hb:V (suf x 0) b):∃w,V (suf x 0) w/\mul (suf x 0) (mul (suf x 0) b a) w=mul (suf x 0) a b/\zPG x a b=jd w:=by
 have ok:=ok0 h hc;have G:=g0 h hc;have hba:=yO ok hb ha;have fC:=yO ok ha hb;obtain⟨i,i1,i2,i3⟩:=zHH h hc hba;refine⟨mul (suf x 0) i (mul (suf x 0) a b),yO ok i1 fC,?_,?_⟩
 ·rw[<-G.assoc hba i1 fC,i2,G.onel fC]
 ·unfold zPG
  rw[zIh h hc hb ha,bs,i3,bs,zIh h hc ha hb,bs,zIh h hc i1 fC,bs]
theorem zBS:Fil (V (suf x 0)) (mul (suf x 0)) (zeros (suf x 0).length) x.zA.length (fun d=>at0 x.zA d) (fun v d=>at0 v d):=by
 have F:=fil (ok0 h hc) hc;have hl:(suf x 0).length=x.zA.length:=by rw[yB];omega
 have ho:∀d,d<x.zA.length->od (suf x 0) d=at0 x.zA d:=fun d hd=>by unfold od suf;rw[Jw,J3 (by simpa using hd)];simp[lvl]
 exact⟨F.g,fun ha hd=>by have:=F.r ha (by rw[hl];exact hd);rwa [ho _ hd]at this,fun hd=>F.e0 (by rw[hl];exact hd),fun ha hb hh=>F.ex ha hb fun d hd=>hh d (by rw[<-hl];exact hd),
  fun ha hb hd hz=>by have:=F.ad ha hb (by rw[hl];exact hd) hz;rw[ho _ hd]at this;exact this⟩
end
def tbl(b:Mx)(k:Nat):Option Vec:=match b.getD k []with
 | []=>je
 |v::vs=>jd (v::vs)
theorem qU{b:Mx}{t:Vec}:tbl b k=jd t↔b.getD k []=t/\t≠[]:=by
 unfold tbl;cases b.getD k []with
 |nil=>simp
 |cons v vs=>simp;intro h;rw[<-h];simp
theorem tG{b:Mx}:tbl b k=je↔b.getD k []=[]:=by unfold tbl;cases b.getD k []<;>simp
theorem zLc{b:Mx}(hd:d<b.length)(hy:y≠[]):tbl (b.set d y)=fun j=>if j=d then jd y else tbl b j:=by
 funext j
 by_cases h:j=d
 ·subst h
  rw[if_pos rfl,qU,J2,Jaj hd];exact⟨rfl,hy⟩
 ·rw[if_neg h]
  unfold tbl;rw[J2,Jb2 (fun e=>h e.symm),<-J2]
def qB:Mx->Nat
 | []=>0
 | []::b=>qB b+1
 |(_::_)::b=>qB b
theorem zBF:∀b:Mx,qB b<=b.length
 | []=>Je _
 | []::b=>by simp only[qB,J7];have:=zBF b;omega
 |(_::_)::b=>by simp only[qB,J7];have:=zBF b;omega
theorem zIi:∀(b:Mx)(d:Nat)(y:Vec),d<b.length->b.getD d []=[]->y≠[]->qB (b.set d y)+1=qB b
 | [],d,y,h,_,_=>by simp at h
 |v::b,0,y,_,h,hy=>by
  simp at h;subst h;cases y with
  |nil=>exact absurd rfl hy
  |cons a y=>simp[qB]
 |v::b,d+1,y,h,h1,hy=>by have ih:=zIi b d y (by simpa using h) (by simpa using h1) hy;cases v<;>simp only[Ld,qB]<;>omega
theorem zBG{v:List Int}(hl:v.length<=1000:=by omega):∃d:Nat,d<=v.length/\zPH v=jd (d:Int)/\(∀j,j<d->at0 v j=0)/\(d<v.length->at0 v d≠0):=by
 obtain⟨r,r1,r2⟩:=wV (body:=zNK v) (Q:=fun r=>match r with
   |.inl ()=> ∀j,j<v.length->at0 v j=0
   |.inr e=> ∃d:Nat,e=(d:Int)/\d<v.length/\(∀j,j<d->at0 v j=0)/\at0 v d≠0)
  (fun i s=>s=(i:Int)/\ ∀j,j<i->at0 v j=0) v.length (fun i s hi hs=>by
   obtain⟨rfl,hz⟩:=hs;unfold zNK;rw[yS hi,zH,yA 0 hi,bs]
   by_cases h0:at0 v i=0
   ·left
    have cW:v.getD i 0=0:=h0;rw[cW,show((0:Int) != 0)=jg from rfl,zJ,zB,bs,cs];refine⟨_,rfl,rfl,fun j hj=>?_⟩
    by_cases e:j=i
    ·rw[e];exact h0
    ·exact hz j (by omega)
   ·right
    have cW:(v.getD i 0 != 0)=jf:=by simpa using h0
    rw[cW,zH];exact⟨_,rfl,i,rfl,hi,hz,h0⟩) (fun s hs=>by
   obtain⟨rfl,hz⟩:=hs;unfold zNK;rw[tQ,zJ];exact⟨_,rfl,hz⟩) (s:=0) ⟨rfl,fun j hj=>by omega⟩
 unfold zPH;rw[r1,bs];cases r with
 |inl u=>exact⟨v.length,Je _,rfl,r2,fun h=>absurd h (Jam _)⟩
 |inr e=>
  obtain⟨d,rfl,h1,h2,h3⟩:=r2;exact⟨d,by omega,rfl,h2,fun _=>h3⟩
section
variable {x:SPr} (h:Pres x) (hc:xC (suf x 0)) {b:Mx} (hb:b.length=x.zA.length) (hT:Tab (V (suf x 0)) x.zA.length (fun v d=>at0 v d) (tbl b))
 include h hc hb hT
theorem zSe(hy:V (suf x 0) y):∃(z:Vec)(d:Nat),zYR ⟨x,b⟩ y=jd (z,⟨x,b⟩)/\Sf (V (suf x 0)) (mul (suf x 0)) (zeros (suf x 0).length) x.zA.length (fun v d=>at0 v d) (tbl b) y z/\
  d<=x.zA.length/\(∀j,j<d->at0 z j=0)/\(d<x.zA.length->at0 z d≠0/\tbl b d=je):=by
 have h6:=h.os.1;have F:=zBS h hc;obtain⟨d0,a1,a2,a3,a4⟩:=zBG (v:=y) (by rw[zBs h hc hy];omega);rw[zBs h hc hy]at a1 a4;obtain⟨r,r1,_,d,rfl,r3,r4,r5,r6⟩:=vX (body:=zRr ⟨x,b⟩)
  (Q:=fun r=> ∃(z:Vec)(d:Nat),r=z/\Sf (V (suf x 0)) (mul (suf x 0)) (zeros (suf x 0).length) x.zA.length (fun v d=>at0 v d) (tbl b) y z/\d<=x.zA.length/\(∀j,j<d->at0 z j=0)/\(d<x.zA.length->at0 z d≠0/\tbl b d=je))
  (fun s=> ∃(z:Vec)(d:Nat),s=(z,(d:Int))/\Sf (V (suf x 0)) (mul (suf x 0)) (zeros (suf x 0).length) x.zA.length (fun v d=>at0 v d) (tbl b) y z/\d<=x.zA.length/\(∀j,j<d->at0 z j=0)/\(d<x.zA.length->at0 z d≠0))
  (fun s=>x.zA.length-s.2.toNat) (fun s hs=>by
   obtain⟨z,d,rfl,sf,d1,d2,d3⟩:=hs;have hz:=sf.s;have ch:=zBs h hc hz;unfold zRr;simp only
   by_cases hd:d<x.zA.length
   ·rw[show decide ((d:Int)<(z.length:Int))=jf from ji,zH,yA [],bs]
    cases ht:b.getD d []with
    |nil=>
     right;rw[show(!(([]:List Int)).isEmpty)=jg from rfl,zJ];exact⟨_,rfl,z,d,rfl,sf,d1,d2,fun _=>⟨d3 hd,tG.2 ht⟩⟩
    |cons t0 ts=>
     left;have eQ:tbl b d=jd (t0::ts):=qU.2 ⟨ht,by simp⟩;obtain⟨_,t2,t3,t4⟩:=hT.h eQ;have eI:=h.os.2 d hd;have hp7:=eI.pos;have hr:=F.r hz hd;have k1:=F.killl hd t2 t3 t4 hz d2;obtain⟨q1,q2,_⟩:=F.pw1 hd t2 t3 t4 (at0 x.zA d-at0 z d).toNat;obtain⟨s1,s2⟩:=Sf.left F hT hd hz d2 (d3 hd) eQ (fun _ g=>g.pw _) q1 q2 k1;have bO:=s1.s;rw[show(!((t0::ts)).isEmpty)=jf from rfl,zH,bs,yA 0 hd,bs,yA 0,bs];rw[zB (by show _<=at0 x.zA d-at0 z d;omega) (by show at0 x.zA d-at0 z d<=_;omega),bs];rw[show x.zA.getD d 0-z.getD d 0=at0 x.zA d-at0 z d from rfl,zYn h hc t2 (by omega) (by omega),bs,yDZ h hc q1 hz,bs,yA 0 (by rw[zBs h hc bO];exact hd),bs];rw[show U7 (mul (suf x 0) (pw (mul (suf x 0)) (zeros (suf x 0).length) (t0::ts) (at0 x.zA d-at0 z d).toNat) z) d 0=0 from k1,show((0:Int) != 0)=jg from rfl,zJ];obtain⟨e0,b1,b2,b3,b4⟩:=zBG (v:=mul (suf x 0) (pw (mul (suf x 0)) (zeros (suf x 0).length) (t0::ts) (at0 x.zA d-at0 z d).toNat) z) (by rw[zBs h hc bO];omega);rw[zBs h hc bO]at b1 b4;rw[b2,bs];refine⟨_,rfl,⟨_,e0,rfl,sf.trans s1,b1,b3,b4⟩,?_⟩;have:d<e0:=by apply Classical.byContradiction;intro gc;have:=s2 e0 (by omega);exact b4 (by omega) this
     simp only[J8];omega
   ·right
    rw[show decide ((d:Int)<(z.length:Int))=jg from jh (by omega),zJ];exact⟨_,rfl,z,d,rfl,sf,d1,d2,fun hh=>absurd hh hd⟩) 1000 (y,(d0:Int)) (by simp only;omega) ⟨y,d0,rfl,Sf.refl hy,a1,a3,a4⟩
 refine⟨r,d,?_,r3,r4,r5,r6⟩;unfold zYR;rw[a2,bs,r1,bs]
end
theorem zIj{v:Vec}(h:at0 v d≠0):v≠[]:=by rintro rfl;simp[at0]at h
section
variable {x:SPr} (h:Pres x) (hc:xC (suf x 0)) {b:Mx} (hb:b.length=x.zA.length) (hT:Tab (V (suf x 0)) x.zA.length (fun v d=>at0 v d) (tbl b))
 include h hc hb hT
theorem zSf(hy:V (suf x 0) y){g:List Int×xD}(hg:g.2=⟨x,b⟩)(hQ:Q.length<=100000):
  ∃W:Mx,zG (zSQ g y) (Q,0)=jd (Q++W)/\W.length<=x.zA.length/\(∀w∈W,V (suf x 0) w/\ ∃k u,tbl b k=jd u/\mul (suf x 0) (mul (suf x 0) y u) w=mul (suf x 0) u y)/\
   ∀k u,tbl b k=jd u-> ∃w,w∈W/\mul (suf x 0) (mul (suf x 0) y u) w=mul (suf x 0) u y:=by
 have h6:=h.os.1;obtain⟨r,r1,W,rfl,r2,r3,r4⟩:=wV (body:=zSQ g y)
  (Q:=fun r=> ∃W:Mx,r=Q++W/\W.length<=x.zA.length/\(∀w∈W,V (suf x 0) w/\ ∃k u,tbl b k=jd u/\mul (suf x 0) (mul (suf x 0) y u) w=mul (suf x 0) u y)/\
   ∀k u,tbl b k=jd u-> ∃w,w∈W/\mul (suf x 0) (mul (suf x 0) y u) w=mul (suf x 0) u y)
  (fun i s=> ∃W:Mx,s=(Q++W,(i:Int))/\W.length<=i/\(∀w∈W,V (suf x 0) w/\ ∃k u,tbl b k=jd u/\mul (suf x 0) (mul (suf x 0) y u) w=mul (suf x 0) u y)/\
   ∀k u,k<i->tbl b k=jd u-> ∃w,w∈W/\mul (suf x 0) (mul (suf x 0) y u) w=mul (suf x 0) u y) x.zA.length (fun i s hi hs=>by
   obtain⟨W,rfl,w1,w2,w3⟩:=hs;left;unfold zSQ;simp only[hg];rw[show decide ((i:Int)<(b.length:Int))=jf from ji,zH,yA [],bs];cases ht:b.getD i []with
   |nil=>
    rw[show(!(([]:List Int)).isEmpty)=jg from rfl,zJ,zB,bs,cs];refine⟨_,rfl,W,rfl,by omega,w2,fun k u hk hu=>?_⟩
    by_cases e:k=i
    ·subst e
     rw[tG.2 ht]at hu;cases hu
    ·exact w3 k u (by omega) hu
   |cons t0 ts=>
    have eQ:tbl b i=jd (t0::ts):=qU.2 ⟨ht,by simp⟩;obtain⟨_,t2,_,_⟩:=hT.h eQ;obtain⟨w,v1,v2,v3⟩:=zZT h hc t2 hy;rw[show(!((t0::ts)).isEmpty)=jf from rfl,zH,v3,bs,zV (by simp only[J5,Jb];omega),bs,zB,bs,cs];refine⟨_,rfl,W++[w],by rw[Jg],by simp only[J5,Jb];omega,fun a ha=>?_,fun k u hk hu=>?_⟩
    ·rcases Ja.1 ha with ha|ha
     ·exact w2 a ha
     ·simp at ha;subst ha
      exact⟨v1,i,_,eQ,v2⟩
    ·by_cases e:k=i
     ·subst e
      rw[eQ]at hu;cases hu;exact⟨w,by simp,v2⟩
     ·obtain⟨a,a1,a2⟩:=w3 k u (by omega) hu
      exact⟨a,by simp[a1],a2⟩) (fun s hs=>by
   obtain⟨W,rfl,w1,w2,w3⟩:=hs;unfold zSQ;simp only[hg];rw[show decide ((x.zA.length:Int)<(b.length:Int))=jg from jh (by omega),zJ];exact⟨_,rfl,W,rfl,w1,w2,fun k u hu=>w3 k u (hT.h hu).1 hu⟩) (s:=(Q,0)) ⟨[],by simp,Je _,by simp,fun k u hk=>by omega⟩
 exact⟨W,r1,r2,r3,r4⟩
end
section
variable {x:SPr} (h:Pres x) (hc:xC (suf x 0))
 include h hc
abbrev WlB(x:SPr)(L:Vec->Prop)(b:Mx)(Q:Mx):Prop:=Wl (V (suf x 0)) (mul (suf x 0)) (zeros (suf x 0).length) x.zA.length (fun d=>at0 x.zA d) (fun v d=>at0 v d) L (tbl b) Q
theorem zVs{L:Vec->Prop}(hL:∀a,L a->V (suf x 0) a){b:Mx}(hb:b.length=x.zA.length){g:Bool}{q:Vec}(hW:WlB x L b (q::Q))(hQ:Q.length<=10000):
  ∃(b':Mx)(g':Bool)(Q':Mx),zSR (x,b,g,q::Q)=jd (.inl (x,b',g',Q'))/\b'.length=x.zA.length/\WlB x L b' Q'/\
   (b'=b/\Q'=Q/\g'=g\/qB b'+1=qB b/\Q'.length<=Q.length+x.zA.length+2/\g'=jf):=by
 have h6:=h.os.1;have F:=zBS h hc;have G:=g0 h hc;have hq:=hW.q q (by simp);obtain⟨z,d,s1,sf,s3,s4,s5⟩:=zSe h hc hb hW.t hq.1;have hz:=sf.s;have ch:=zBs h hc hz;obtain⟨d',d1,d2,d3,d4⟩:=zBG (v:=z);rw[ch]at d1 d4;have iP:d'=d:=by
  rcases G1 d' d with g|g|g
  ·exact absurd (s4 d' g) (d4 (by omega))
  ·exact g
  ·exact absurd (d3 d g) (s5 (by omega)).1
 subst iP;unfold zSR;simp only
 rw[show decide (((q::Q).length:Int)> 0)=jf from ji (by simp only[J7];omega),zH];rw[show ixO (q::Q) (0:Int)=jd q from rfl,bs,s1,bs];rw[show zR (q::Q) 1 ((q::Q).length:Int)=jd Q from by unfold zR;rw[if_pos ⟨by omega,by simp only[J7];omega,Int.le_refl _⟩];simp,bs]
 dsimp only
 rw[d2,bs]
 by_cases hd:d'<x.zA.length
 ·obtain⟨n1,n2⟩:=s5 hd
  have eI:=h.os.2 d' hd;have hp7:=eI.pos;have hr:=F.r hz hd;obtain⟨v,v1,v2,v3,v4⟩:=zB5 eI (x:=at0 z d') (by have:=hr.1;omega) (by have:=hr.2;omega);have pq:V (suf x 0) (pw (mul (suf x 0)) (zeros (suf x 0).length) z v.toNat):=wS G.toMon hz _;obtain⟨y,po⟩:∃y,y=pw (mul (suf x 0)) (zeros (suf x 0).length) z v.toNat:=⟨_,rfl⟩;rw[<-po]at pq;have mQ:=F.pwc hd hz s4 v.toNat;rw[<-po]at mQ;have eD:at0 y d'=1:=by have:=mQ.2;rw[this,show((v.toNat:Nat):Int)=v from by omega,Gz];exact v4
  have a7:V (suf x 0) (pw (mul (suf x 0)) (zeros (suf x 0).length) y (at0 x.zA d').toNat):=wS G.toMon pq _;have cJ:y≠[]:=zIj (d:=d') (by rw[eD];decide);rw[show(((d':Nat):Int)==(z.length:Int))=jg from by simp;omega,zJ,yA 0,bs,yA 0 hd,bs];rw[show z.getD d' 0=at0 z d' from rfl,show x.zA.getD d' 0=at0 x.zA d' from rfl,v1,bs,zV (by simp only[Jb];omega),bs];simp only
  rw[zYn h hc hz v2 (by omega),bs,bs,<-po,zYn h hc pq (by omega) (by omega),bs,zV (by simp only[J5,Jb];omega),bs];obtain⟨W,W1,W2,W3,W4⟩:=zSf h hc hb hW.t pq (g:=(z,⟨x,b⟩)) rfl (Q:=Q++[z]++[pw (mul (suf x 0)) (zeros (suf x 0).length) y (at0 x.zA d').toNat]) (by simp only[J5,Jb];omega);rw[W1,bs,yA [],bs,show neO y=jd ()from by cases y with
   |nil=>exact absurd rfl cJ
   |cons _ _=>rfl,bs]
  refine⟨_,_,_,rfl,by rw[Hf];exact hb,?_,.inr ⟨zIi b d' y (by omega) (tG.1 n2) cJ,by simp only[J5,Jb];omega,rfl⟩⟩;rw[show((d':Nat):Int).toNat=d' from rfl];have gv:=zLc (b:=b) (d:=d') (y:=y) (by omega) cJ;have tx:Gen (V (suf x 0)) (mul (suf x 0)) (zeros (suf x 0).length) L z:=sf.h L hL hW.th hq.2;have pt:Gen (V (suf x 0)) (mul (suf x 0)) (zeros (suf x 0).length) L y:=by rw[po];exact tx.pw _
  rw[WlB,gv];refine Wl.add F hW hd n2 pq pt mQ.1 eD (x:=q) (fun k hk=>?_) (fun a ha=>?_) (fun a ha=>?_) (by simp) (fun k u hu=>?_)
  ·have j5:∀k t,tbl b k=jd t->(fun j=>if j=d' then jd y else tbl b j) k=jd t:=fun k t hk=>by
    show(if k=d' then jd y else tbl b k)=jd t;rw[if_neg]
    ·exact hk
    ·intro e;rw[e,n2]at hk;cases hk
   have j8:∀a∈Q++[z]++[pw (mul (suf x 0)) (zeros (suf x 0).length) y (at0 x.zA d').toNat]++W,V (suf x 0) a:=fun a ha=>by
    simp only[Ja,List.mem_singleton]at ha;rcases ha with((ha|rfl)|rfl)|ha
    ·exact(hW.q a (by simp[ha])).1
    ·exact hz
    ·exact a7
    ·exact(W3 a ha).1
   have:=sf.g k (Q++[z]++[pw (mul (suf x 0)) (zeros (suf x 0).length) y (at0 x.zA d').toNat]++W) j8 hk (.x (.inr ⟨by simp,fun j hj fL=>sf.d k hk j hj fL⟩));exact this.tr j5 fun a ha k hk=>.x (.inr ⟨ha,hk⟩)
  ·simp only[Ja,List.mem_singleton]at ha
   rcases ha with((ha|rfl)|rfl)|ha
   ·exact hW.q a (by simp[ha])
   ·exact⟨hz,tx⟩
   ·exact⟨a7,pt.pw _⟩
   ·obtain⟨a1,k,u,a2,a3⟩:=W3 a ha
    have hu:=(hW.t.h a2).2.1;refine⟨a1,Gen.right G hL (.m pt (hW.th a2)) a1 ?_⟩;rw[a3];exact .m (hW.th a2) pt
  ·simp only[J9]at ha
   rcases ha with rfl|ha
   ·exact .inl rfl
   ·exact .inr (by simp[ha])
  ·obtain⟨w,w1,w2⟩:=W4 k u hu
   exact⟨w,by simp[w1],.inr w2⟩
 ·rw[show(((d':Nat):Int)==(z.length:Int))=jf from by simp;omega,zH]
  refine⟨b,g,Q,rfl,hb,?_,.inl ⟨rfl,rfl,rfl⟩⟩;have dI:z=zeros (suf x 0).length:=F.ex hz G.ein fun j hj=>by have e0:=F.e0 hj;rw[e0,s4 j (by omega)]
  refine Wl.drop hW (x:=q) (fun k hk=>?_) (fun a ha=>by simp[ha]) (fun a ha=>by simpa using ha);exact sf.g k Q (fun a ha=>(hW.q a (by simp[ha])).1) hk (by rw[dI];exact .one)
theorem zJG{L:Vec->Prop}(hL:∀a,L a->V (suf x 0) a){b:Mx}(hb:b.length=x.zA.length)(hW:WlB x L b M)(hM:M.length<=1000):
  ∃(g:Bool)(b':Mx),f_E ⟨x,b⟩ M=jd (g,⟨x,b'⟩)/\b'.length=x.zA.length/\WlB x L b' []/\(b'=b/\g=jg\/qB b'<qB b/\g=jf):=by
 have h6:=h.os.1;obtain⟨r,r1,b',g,rfl,r2,r3,r4⟩:=vX (body:=zSR) (Q:=fun r=> ∃(b':Mx)(g:Bool),r=(x,b',g)/\b'.length=x.zA.length/\WlB x L b' []/\(b'=b/\g=jg\/qB b'<qB b/\g=jf))
  (fun s=> ∃(b1:Mx)(g:Bool)(Q:Mx),s=(x,b1,g,Q)/\b1.length=x.zA.length/\WlB x L b1 Q/\qB b1*20+Q.length<=2000/\(b1=b/\g=jg\/qB b1<qB b/\g=jf)) (fun s=>qB s.2.1*20+s.2.2.2.length) (fun s hs=>by
   obtain⟨b1,g,Q,rfl,hb,hW,hm,hg⟩:=hs;cases Q with
   |nil=>
    right;unfold zSR;simp only
    rw[show decide ((([]:Mx).length:Int)> 0)=jg from rfl,zJ];exact⟨_,rfl,b1,g,rfl,hb,hW,hg⟩
   |cons q Q=>
    left;simp only[J7]at hm;obtain⟨b',g',Q',e1,e2,e3,e4⟩:=zVs h hc hL hb hW (g:=g) (by omega);refine⟨_,e1,⟨b',g',Q',rfl,e2,e3,?_,?_⟩,?_⟩
    ·rcases e4 with⟨rfl,rfl,_⟩|⟨e4,e5,_⟩<;>omega
    ·rcases e4 with⟨rfl,rfl,rfl⟩|⟨e4,e5,rfl⟩
     ·exact hg
     ·right
      refine⟨?_,rfl⟩;rcases hg with⟨rfl,_⟩|⟨hg,_⟩<;>omega
    ·simp only[J7]
     rcases e4 with⟨rfl,rfl,_⟩|⟨e4,e5,_⟩<;>omega) 100000 (x,b,jg,M) (by have:=zBF b;simp only;omega) ⟨b,jg,M,rfl,hb,hW,by have:=zBF b;omega,.inl ⟨rfl,rfl⟩⟩
 refine⟨g,b',?_,r2,r3,r4⟩;unfold f_E zWZ;rw[zV (by simp only[Jt];omega),bs,bs,Jz,r1,bs]
theorem zNf{L:Vec->Prop}(hL:∀a,L a->V (suf x 0) a){b:Mx}(hb:b.length=x.zA.length)(hW:WlB x L b M)(hM:M.length<=1000):
  ∃(g:Bool)(b':Mx),f_E ⟨x,b⟩ M=jd (g,⟨x,b'⟩)/\b'.length=x.zA.length/\WlB x L b' []:=by
 obtain⟨g,b',e1,e2,e3,_⟩:=zJG h hc hL hb hW hM;exact⟨g,b',e1,e2,e3⟩
end
def xZ(C:Nat->Option Vec)(k l:Nat):Mx:=(K7 k l).filterMap C
def zER(C:Nat->Option Vec)(k l:Nat):List Int:=(K7 k l).filterMap fun j=>(C j).map fun _=>(j:Int)
theorem zES(h:C k=je):xZ C k (l+1)=xZ C (k+1) l:=by simp only[xZ,Ho,Hk,h]
theorem zET{t:Vec}(h:C k=jd t):xZ C k (l+1)=t::xZ C (k+1) l:=by simp only[xZ,Ho,Hk,h]
theorem zJH(h:C k=je):zER C k (l+1)=zER C (k+1) l:=by simp only[zER,Ho,Hk,h,Jab]
theorem zJI{t:Vec}(h:C k=jd t):zER C k (l+1)=(k:Int)::zER C (k+1) l:=by simp only[zER,Ho,Hk,h,He]
theorem zEU{C D:Nat->Option Vec}:∀(l k:Nat),(∀j,k<=j->C j=D j)->xZ C k l=xZ D k l
 |0,_,_=>rfl
 |l+1,k,h=>by
  have ih:=zEU l (k+1) fun j hj=>h j (by omega)
  cases hc:C k with
  |none=>rw[zES hc,zES (by rw[<-h k (Je _)];exact hc),ih]
  |some t=>rw[zET hc,zET (by rw[<-h k (Je _)];exact hc),ih]
theorem zC9(C:Nat->Option Vec)(k l:Nat):(xZ C k l).length<=l:=by
 have:=List.length_filterMap_le C (K7 k l)
 rwa [Qz]at this
theorem zLd{α:Type}{u:List α}{a:α}{v:List α}(h:u.drop i=a::v):i<u.length/\ixO u (i:Int)=jd a/\u.drop (i+1)=v:=by
 have hi:i<u.length:=by apply Classical.byContradiction;intro g;rw[Uo (by omega)]at h;cases h
 rw[Hq hi]at h;injection h with h1 h2;exact⟨hi,by rw[vD,J3 hi,h1],h2⟩
theorem zSg{v:List Int}(hd:d<v.length)(hl:v.length<=1000)(hz:∀j,j<d->at0 v j=0)(h1:at0 v d=1):zS4 v=jd (d:Int):=by
 obtain⟨r,r1,rfl⟩:=wV (body:=zGf v) (Q:=fun r=>r=.inr (d:Int)) (fun i s=>s=(i:Int)) d (fun i s hi hs=>by
  subst hs;left;unfold zGf zS3;rw[yS,zH,yA 0,bs,bs,show v.getD i 0=0 from hz i hi,show((0:Int) != 0)=jg from rfl,zJ,zB,bs,cs];exact⟨_,rfl,rfl⟩) (fun s hs=>by
  subst hs;unfold zGf zS3;rw[yS hd,zH,yA 0 hd,bs,bs,show v.getD d 0=1 from h1,show((1:Int) != 0)=jf from rfl,zH];exact⟨_,rfl,rfl⟩) (s:=0) rfl
 unfold zS4;rw[r1,bs]
section
variable {x:SPr} (h:Pres x) (hc:xC (suf x 0)) {C:Nat->Option Vec} (hC:∀{j t},C j=jd t->j<x.zA.length/\V (suf x 0) t/\(∀i,i<j->at0 t i=0)/\at0 t j=1)
 include h hc hC
theorem zIk:∀(l k i:Nat)(u:Mx)(acc:List Int),k+l=x.zA.length->u.drop i=xZ C k l->u.length<=1000->acc.length<=i->i<=u.length->zG (zIL u) (acc,(i:Int))=jd (acc++zER C k l)
 |0,k,i,u,acc,hk,hu,hl,ha,hi=>by
  have:i=u.length:=by have:=congrArg Qd hu;rw[Kk]at this;simp[xZ]at this;omega
  subst this;rw[yP];unfold zIL;simp only
  rw[tQ,zJ];simp[zER]
 |l+1,k,i,u,acc,hk,hu,hl,ha,hi=>by
  have h6:=h.os.1;cases ht:C k with
  |none=>
   rw[zES ht]at hu;rw[zJH ht];exact zIk l (k+1) i u acc (by omega) hu hl ha hi
  |some t=>
   rw[zET ht]at hu;obtain⟨a1,a2,a3⟩:=zLd hu;obtain⟨c1,c2,c3,c4⟩:=hC ht;have eM:=zBs h hc c2;rw[yP];unfold zIL;simp only
   rw[yS a1,zH,a2,bs,zSg (by omega) (by omega) c3 c4,bs,zV (by simp only[Jb];omega),bs,zB,bs,cs];have:=zIk l (k+1) (i+1) u (acc++[(k:Int)]) (by omega) a3 hl (by simp only[J5,Jb];omega) (by omega);unfold zIL at this;simp only at this ⊢
   rw[this,zJI ht,Jg];rfl
theorem zVt(k l:Nat)(hk:k+l=x.zA.length):f_Q (xZ C k l)=jd (zER C k l):=by have h6:=h.os.1;have:=zIk h hc hC l k 0 (xZ C k l) [] hk rfl (by have:=zC9 C k l;omega) (by simp) (by omega);unfold f_Q;rw[show zG (zIL (xZ C k l)) ([],0)=jd (zER C k l)from by simpa using this,bs]
theorem zSh{s:List Int×Int}{t:Vec}(ht:C j=jd t)(hu:ixO u s.2=jd t)(hy:V (suf x 0) y):∃z,(∀{Y:Vec->Prop},Gen (V (suf x 0)) (mul (suf x 0)) (zeros (suf x 0).length) Y t->Gen (V (suf x 0)) (mul (suf x 0)) (zeros (suf x 0).length) Y z)/\
  V (suf x 0) z/\(∀i,i<j->at0 z i=0)/\at0 (mul (suf x 0) y z) j=0/\zG (zSS x u s (j:Int)) y=jd (mul (suf x 0) y z):=by
 have F:=zBS h hc;have G:=g0 h hc;obtain⟨c1,c2,c3,c4⟩:=hC ht;have hr:=F.r hy c1;have eI:=(h.os.2 j c1).pos;obtain⟨n,hn⟩:∃n:Nat,(at0 y j=0/\n=0)\/(at0 y j≠0/\(n:Int)=at0 x.zA j-at0 y j):=by
  by_cases e:at0 y j=0
  ·exact⟨0,.inl ⟨e,rfl⟩⟩
  ·exact⟨(at0 x.zA j-at0 y j).toNat,.inr ⟨e,by omega⟩⟩
 have hp:=fun a=>F.pw1 c1 c2 c3 c4 a
 have iR:∀a,at0 (mul (suf x 0) y (pw (mul (suf x 0)) (zeros (suf x 0).length) t a)) j=(at0 y j+a)%at0 x.zA j:=fun a=>by have:=(F.ad hy (hp a).1 c1 (hp a).2.1).2;rw[this,(hp a).2.2,Int.add_emod_emod]
 have hV:∀a,V (suf x 0) (mul (suf x 0) y (pw (mul (suf x 0)) (zeros (suf x 0).length) t a)):=fun a=>G.cl hy (hp a).1
 refine⟨pw (mul (suf x 0)) (zeros (suf x 0).length) t n,fun g=>g.pw n,(hp n).1,(hp n).2.1,?_,?_⟩
 ·rw[iR]
  rcases hn with⟨e,rfl⟩|⟨e,hn⟩
  ·rw[e];simp
  ·rw[hn,show at0 y j+(at0 x.zA j-at0 y j)=at0 x.zA j from by omega,Jap]
 ·have:=zN (body:=zSS x u s (j:Int)) (r:=mul (suf x 0) y (pw (mul (suf x 0)) (zeros (suf x 0).length) t n)) (fun a=>mul (suf x 0) y (pw (mul (suf x 0)) (zeros (suf x 0).length) t a)) n (fun a ha=>by
   have dn:=hV a;unfold zSS;rw[yA 0 (by rw[zBs h hc dn];exact c1),bs];rw[show U7 (mul (suf x 0) y (pw (mul (suf x 0)) (zeros (suf x 0).length) t a)) j 0=(at0 y j+a)%at0 x.zA j from iR a];have gc:(at0 y j+a)%at0 x.zA j≠0:=by
    rcases hn with⟨e,rfl⟩|⟨e,hn⟩
    ·omega
    ·rw[Jp (by omega) (by omega)];omega
   rw[show((at0 y j+a)%at0 x.zA j != 0)=jf from by simpa using gc,zH,hu,bs,tv0 h hc dn c2,bs];have e1:mul (suf x 0) (mul (suf x 0) y (pw (mul (suf x 0)) (zeros (suf x 0).length) t a)) t=mul (suf x 0) y (pw (mul (suf x 0)) (zeros (suf x 0).length) t (a+1)):=by
    rw[G.assoc hy (hp a).1 c2]
    congr 1
    rw[pw,pw,xP]
   rw[e1]) (by
   have dn:=hV n;unfold zSS;rw[yA 0 (by rw[zBs h hc dn];exact c1),bs];rw[show U7 (mul (suf x 0) y (pw (mul (suf x 0)) (zeros (suf x 0).length) t n)) j 0=0 from by
    have:=iR n;rw[show U7 (mul (suf x 0) y (pw (mul (suf x 0)) (zeros (suf x 0).length) t n)) j 0=(at0 y j+n)%at0 x.zA j from this];rcases hn with⟨e,rfl⟩|⟨e,hn⟩
    ·rw[e];simp
    ·rw[hn,show at0 y j+(at0 x.zA j-at0 y j)=at0 x.zA j from by omega,Jap]]
   rw[show((0:Int) != 0)=jg from rfl,zJ])
  have e0:mul (suf x 0) y (pw (mul (suf x 0)) (zeros (suf x 0).length) t 0)=y:=G.oner hy;rw[e0]at this;exact this
theorem zPc{L:Vec->Prop}{d:Nat}(hL:∀{j t},C j=jd t->Gen (V (suf x 0)) (mul (suf x 0)) (zeros (suf x 0).length) L t){u:Mx}{P:List Int}:∀(l k i:Nat)(y:Vec),d<k->k+l=x.zA.length->u.drop i=xZ C k l->P.drop i=zER C k l->i<=P.length->i+l<=1000->
  Rd (V (suf x 0)) (mul (suf x 0)) (zeros (suf x 0).length) x.zA.length (fun v j=>at0 v j) L C d k y->
  ∃r,zG (zPI x u P) (y,(i:Int))=jd r/\Rd (V (suf x 0)) (mul (suf x 0)) (zeros (suf x 0).length) x.zA.length (fun v j=>at0 v j) L C d x.zA.length r
 |0,k,i,y,hdk,hk,hu,hP,hi,eR,hR=>by
  have:i=P.length:=by have:=congrArg Qd hP;rw[Kk]at this;simp[zER]at this;omega
  subst this;have e:k=x.zA.length:=by omega
  rw[e]at hR;refine⟨y,?_,hR⟩;rw[yP];unfold zPI;simp only
  rw[tQ,zJ]
 |l+1,k,i,y,hdk,hk,hu,hP,hi,eR,hR=>by
  have h6:=h.os.1;have F:=zBS h hc;cases ht:C k with
  |none=>
   rw[zES ht]at hu;rw[zJH ht]at hP;exact zPc hL l (k+1) i y (by omega) (by omega) hu hP hi (by omega) (hR.skip (.inl ht))
  |some t=>
   rw[zET ht]at hu;rw[zJI ht]at hP;obtain⟨a1,a2,a3⟩:=zLd hu;obtain⟨p1,p2,p3⟩:=zLd hP;obtain⟨z,z1,z2,z3,z4,z5⟩:=zSh h hc hC (u:=u) (s:=(y,(i:Int))) ht a2 hR.s;have dB:=hR.step F hdk (by omega) z2 (z1 (hL ht)) z3 z4;obtain⟨r,r1,r2⟩:=zPc hL l (k+1) (i+1) _ (by omega) (by omega) a3 p3 (by omega) (by omega) dB;have cv:zPI x u P (y,(i:Int))=jd (.inl (mul (suf x 0) y z,((i+1:Nat):Int))):=by
    unfold zPI;simp only
    rw[yS p1,zH,p2,bs,z5,bs,zB,bs,cs]
   exact⟨r,by rw[yP,cv];exact r1,r2⟩
end
section
variable {x:SPr} (h:Pres x) (hc:xC (suf x 0))
abbrev vP(x:SPr)(L:Vec->Prop):Vec->Prop:=Gen (V (suf x 0)) (mul (suf x 0)) (zeros (suf x 0).length) L
abbrev zAt(x:SPr)(L:Vec->Prop)(C:Nat->Option Vec):Prop:=Pc.Can (e:=zeros (suf x 0).length) (V (suf x 0)) x.zA.length (fun v j=>at0 v j) (vP x L) C
structure CI (x:SPr) (L:Vec->Prop) (b:Mx) (d:Nat) (C:Nat->Option Vec):Prop where
 c:∀{j t},C j=jd t->j<x.zA.length/\V (suf x 0) t/\(∀i,i<j->at0 t i=0)/\at0 t j=1
 lo:∀{j t},C j=jd t->d<=j
 g:∀{j t},C j=jd t->vP x L t
 r:∀{j t},C j=jd t-> ∀i,j<i->i<x.zA.length->(C i).isSome=jf->at0 t i=0
 s:∀j,d<=j->(C j).isSome=(tbl b j).isSome
theorem CI.put{L:Vec->Prop}{b:Mx}(hI:CI x L b (d+1) C)(hd:d<x.zA.length){t r:Vec}(ht:tbl b d=jd t)(hr:Rd (V (suf x 0)) (mul (suf x 0)) (zeros (suf x 0).length) x.zA.length (fun v j=>at0 v j) L C d x.zA.length r):
  CI x L b d (fun j=>if j=d then jd r else C j)/\xZ (fun j=>if j=d then jd r else C j) d (x.zA.length-d)=r::xZ C (d+1) (x.zA.length-(d+1)):=by
 have key:∀{j t},(if j=d then jd r else C j)=jd t->(j=d/\t=r)\/(j≠d/\C j=jd t):=fun{j t} hj=>by
  split at hj
  ·rename_i e;cases hj;exact .inl ⟨e,rfl⟩
  ·rename_i e;exact .inr ⟨e,hj⟩
 refine⟨⟨fun hj=>?_,fun hj=>?_,fun hj=>?_,fun hj i hi gK mN=>?_,fun j hj=>?_⟩,?_⟩
 ·rcases key hj with⟨rfl,rfl⟩|⟨_,e⟩
  ·exact⟨hd,hr.s,hr.z,hr.o⟩
  ·exact hI.c e
 ·rcases key hj with⟨rfl,rfl⟩|⟨_,e⟩
  ·exact Je _
  ·have:=hI.lo e;omega
 ·rcases key hj with⟨rfl,rfl⟩|⟨_,e⟩
  ·exact hr.l
  ·exact hI.g e
 ·replace mN:(if i=d then jd r else C i).isSome=jf:=mN
  rcases key hj with⟨rfl,rfl⟩|⟨_,e⟩
  ·rw[if_neg (by omega)]at mN
   exact hr.r i hi gK mN
  ·have:=hI.lo e
   rw[if_neg (by omega)]at mN;exact hI.r e i hi gK mN
 ·show(if j=d then jd r else C j).isSome=_
  by_cases e:j=d
  ·subst e;rw[if_pos rfl,ht];rfl
  ·rw[if_neg e];exact hI.s j (by omega)
 ·rw[show x.zA.length-d=(x.zA.length-(d+1))+1 from by omega,zET (t:=r) (by simp)]
  congr 1
  exact zEU _ _ fun j hj=>by rw[if_neg (by omega)]
theorem CI.skip{L:Vec->Prop}{b:Mx}(hI:CI x L b (d+1) C)(hd:d<x.zA.length)(ht:tbl b d=je):CI x L b d C/\xZ C d (x.zA.length-d)=xZ C (d+1) (x.zA.length-(d+1)):=by
 have hn:C d=je:=by
  cases e:C d with
  |none=>rfl
  |some t=>have:=hI.lo e;omega
 refine⟨⟨hI.c,fun e=>by have:=hI.lo e;omega,hI.g,hI.r,fun j hj=>?_⟩,?_⟩
 ·by_cases e:j=d
  ·subst e;rw[hn,ht]
  ·exact hI.s j (by omega)
 ·rw[show x.zA.length-d=(x.zA.length-(d+1))+1 from by omega,zES hn]
theorem CI.start{L:Vec->Prop}{b:Mx}(hb:b.length=x.zA.length):CI x L b x.zA.length (fun _=>je):=
 ⟨(fun e=>by cases e),(fun e=>by cases e),(fun e=>by cases e),(fun e=>by cases e),fun j hj=>by rw[tG.2 (by rw[J2,Lf (by omega)];rfl)]⟩
 include h hc
theorem CI.can{L:Vec->Prop}{b:Mx}(hI:CI x L b 0 C)(hW:WlB x L b []):zAt x L C:=
 Wl.can (zBS h hc) hW (fun k=>hI.s k (by omega)) fun{k t} e=>by obtain⟨c1,c2,c3,c4⟩:=hI.c e;exact⟨hI.g e,c2,c3,c4,hI.r e⟩
theorem zVu{L:Vec->Prop}{b:Mx}(hI:CI x L b (d+1) C)(hd:d<x.zA.length){t:Vec}(hT:V (suf x 0) t)(hg:vP x L t)(hz:∀i,i<d->at0 t i=0)(h1:at0 t d=1):
  ∃r,f_M x (xZ C (d+1) (x.zA.length-(d+1))) t=jd r/\Rd (V (suf x 0)) (mul (suf x 0)) (zeros (suf x 0).length) x.zA.length (fun v j=>at0 v j) L C d x.zA.length r:=by
 have h6:=h.os.1;have gy:f_B t=jd t:=by
  have:=zH1 h (k:=0) (by omega) hc hT
  rwa [fv0]at this
 obtain⟨r,r1,r2⟩:=zPc h hc (C:=C) (fun e=>hI.c e) (L:=L) (d:=d) (fun e=>hI.g e) (u:=xZ C (d+1) (x.zA.length-(d+1))) (P:=zER C (d+1) (x.zA.length-(d+1))) (x.zA.length-(d+1)) (d+1) 0 t (by omega) (by omega) rfl rfl (by omega) (by omega)
  ⟨hT,hg,hz,h1,fun i hi eR=>by omega⟩
 refine⟨r,?_,r2⟩;unfold f_M;rw[gy,bs,zVt h hc (C:=C) (fun e=>hI.c e) (d+1) _ (by omega),bs];have r1':zG (zPI x (xZ C (d+1) (x.zA.length-(d+1))) (zER C (d+1) (x.zA.length-(d+1)))) (t,0)=jd r:=r1;rw[r1',bs]
theorem zDR{L:Vec->Prop}{b:Mx}(hb:b.length=x.zA.length)(hW:WlB x L b []):∃C,zST ⟨x,b⟩=jd (xZ C 0 x.zA.length)/\zAt x L C:=by
 have h6:=h.os.1;obtain⟨r,r1,C,rfl,r2⟩:=vX (body:=zRs ⟨x,b⟩) (Q:=fun r=> ∃C,r=xZ C 0 x.zA.length/\CI x L b 0 C)
  (fun s=> ∃(d:Nat)(C:Nat->Option Vec),s=(xZ C d (x.zA.length-d),(d:Int)-1)/\d<=x.zA.length/\CI x L b d C) (fun s=>(s.2+1).toNat) (fun s hs=>by
   obtain⟨d,C,rfl,hd,hI⟩:=hs;unfold zRs;simp only
   cases d with
   |zero=>
    right;rw[show decide (((0:Nat):Int)-1>=0)=jg from rfl,zJ];exact⟨_,rfl,C,rfl,hI⟩
   |succ d=>
    left;rw[show(((d+1:Nat):Int)-1)=(d:Int)from by omega,show decide ((d:Int)>=0)=jf from ji,zH,yA [],bs];cases ht:b.getD d []with
    |nil=>
     obtain⟨i1,i2⟩:=hI.skip (by omega) (tG.2 ht);rw[show(!(([]:List Int)).isEmpty)=jg from rfl,zJ,zB,bs];exact⟨_,rfl,⟨d,C,by rw[i2],by omega,i1⟩,by simp only;omega⟩
    |cons t0 ts=>
     have eQ:tbl b d=jd (t0::ts):=qU.2 ⟨ht,by simp⟩;obtain⟨t1,t2,t3,t4⟩:=hW.t.h eQ;obtain⟨r,e1,e2⟩:=zVu h hc hI (by omega) t2 (hW.th eQ) t3 t4;obtain⟨i1,i2⟩:=hI.put (by omega) eQ e2;rw[show(!((t0::ts)).isEmpty)=jf from rfl,zH,bs,e1,bs,zV (by have:=zC9 C (d+1) (x.zA.length-(d+1));simp only[Jb];omega),bs,zB,bs];exact⟨_,rfl,⟨d,_,by rw[i2];rfl,by omega,i1⟩,by simp only;omega⟩) 1000 ([],(x.zA.length:Int)-1) (by simp only;omega) ⟨x.zA.length,fun _=>je,by simp[xZ],Je _,CI.start hb⟩
 refine⟨C,?_,r2.can h hc hW⟩;unfold zST;simp only
 rw[hb,zB,bs,r1,bs]
theorem zFG(hM:∀a∈M,V (suf x 0) a):WlB x (· ∈M) (J1 x.zA.length []) M:=by
 have e:tbl (J1 x.zA.length [])=fun _=>je:=by
  funext k
  rw[tG,J2,K4];split<;>rfl
 have _:=h;have _:=hc;rw[WlB,e];exact Wl.start M hM
theorem zIl(hM:∀a∈M,V (suf x 0) a)(hl:M.length<=1000):∃C,zXa x M=jd (xZ C 0 x.zA.length)/\zAt x (· ∈M) C:=by have h6:=h.os.1;obtain⟨g,b,e1,e2,e3⟩:=zNf h hc (L:=(· ∈M)) (fun a ha=>hM a ha) (b:=J1 x.zA.length []) (by simp) (zFG h hc hM) hl;obtain⟨C,c1,c2⟩:=zDR h hc e2 e3;refine⟨C,?_,c2⟩;unfold zXa zWY;rw[yH,bs,bs,e1,bs,c1,bs]
end
theorem zYo(k l:Nat):xZ C k (l+1)=xZ C k l++(match C (k+l)with
  |none=>[]
  |some t=>[t]):=by
 unfold xZ;rw[Qj,List.filterMap_append]
 congr 1
 cases h:C (k+l)<;>simp[h]
section
variable {x:SPr} (h:Pres x) (hc:xC (suf x 0))
 include h hc
theorem zJJ{b:Mx}{t:Vec}(hd:d<x.zA.length)(ht:V (suf x 0) t)(zt:∀j,j<d->at0 t j=0)(h1:at0 t d=1)(hy:V (suf x 0) y)(hn:at0 y d≠0)(hb:b.getD d []=t):
  ∃z,zIy x t (0-at0 y d)=jd z/\V (suf x 0) z/\(∀{Y:Vec->Prop},(∀a,Y a->V (suf x 0) a)->vP x Y t->vP x Y z)/\(∀j,j<d->at0 z j=0)/\at0 (mul (suf x 0) y z) d=0:=by
 have F:=zBS h hc;have hr:=F.r hy hd;have eI:=(h.os.2 d hd).pos;have _:=hb;obtain⟨u,u1,u2,u3⟩:=yEa h hc ht (e:=at0 y d) (by have:=hr.1;omega) (by have:=hr.2;omega);obtain⟨k1,k2,k3⟩:=F.killr hd ht u1 u2 zt h1 hy;exact⟨_,by rw[show(0:Int)-at0 y d= -at0 y d from by omega];exact u3,k1,fun _ g=>(Gen.i g u1 u2).pw _,k2,k3⟩
theorem zPd{b:Mx}(hb:b.length=x.zA.length)(hT:Tab (V (suf x 0)) x.zA.length (fun v d=>at0 v d) (tbl b))(hy:V (suf x 0) y):∃(z:Vec)(d:Nat),zYP x b y=jd ((d:Int),z)/\
  Sf (V (suf x 0)) (mul (suf x 0)) (zeros (suf x 0).length) x.zA.length (fun v d=>at0 v d) (tbl b) y z/\d<=x.zA.length/\(∀j,j<d->at0 z j=0)/\(d<x.zA.length->at0 z d≠0/\tbl b d=je):=by
 have h6:=h.os.1;have F:=zBS h hc;obtain⟨r,r1,r2⟩:=wV (body:=zNJ x b) (Q:=fun r=>match r with
   |.inl z=>Sf (V (suf x 0)) (mul (suf x 0)) (zeros (suf x 0).length) x.zA.length (fun v d=>at0 v d) (tbl b) y z/\ ∀j,j<x.zA.length->at0 z j=0
   |.inr p=> ∃(z:Vec)(d:Nat),p=((d:Int),z)/\Sf (V (suf x 0)) (mul (suf x 0)) (zeros (suf x 0).length) x.zA.length (fun v d=>at0 v d) (tbl b) y z/\d<x.zA.length/\(∀j,j<d->at0 z j=0)/\at0 z d≠0/\tbl b d=je)
  (fun d s=> ∃z:Vec,s=(z,(d:Int))/\Sf (V (suf x 0)) (mul (suf x 0)) (zeros (suf x 0).length) x.zA.length (fun v d=>at0 v d) (tbl b) y z/\ ∀j,j<d->at0 z j=0) x.zA.length (fun d s hd hs=>by
   obtain⟨z,rfl,sf,z0⟩:=hs;have hz:=sf.s;have ch:=zBs h hc hz;unfold zNJ;simp only
   rw[show decide ((d:Int)<(b.length:Int))=jf from ji,zH,yA 0,bs]
   by_cases h0:at0 z d=0
   ·left
    rw[show z.getD d 0=0 from h0,show((0:Int)==0)=jf from rfl,zH,zB,bs,cs];refine⟨_,rfl,z,rfl,sf,fun j hj=>?_⟩
    by_cases e:j=d
    ·rw[e];exact h0
    ·exact z0 j (by omega)
   ·rw[show(z.getD d 0==0)=jg from by simpa using h0,zJ,yA [],bs]
    cases ht:b.getD d []with
    |nil=>
     right;rw[show(((([]:List Int)).length:Int)==0)=jf from rfl,zH];exact⟨_,rfl,z,d,rfl,sf,hd,z0,h0,tG.2 ht⟩
    |cons t0 ts=>
     left;have eQ:tbl b d=jd (t0::ts):=qU.2 ⟨ht,by simp⟩;obtain⟨_,t2,t3,t4⟩:=hT.h eQ;obtain⟨w,w1,w2,w3,w4,w5⟩:=zJJ h hc hd t2 t3 t4 hz h0 ht;obtain⟨s1,s2⟩:=Sf.right F hT hd hz z0 h0 eQ w3 w2 w4 w5;have hr:=F.r hz hd;have eI:=(h.os.2 d hd).pos;rw[show((((t0::ts):List Int).length:Int)==0)=jg from by simp;omega,zJ,bs,bs];rw[show z.getD d 0=at0 z d from rfl,zB (by have:=hr.2;omega) (by have:=hr.1;omega),bs,w1,bs,zIh h hc hz w2,bs,zB,bs,cs];exact⟨_,rfl,_,rfl,sf.trans s1,s2⟩) (fun s hs=>by
   obtain⟨z,rfl,sf,z0⟩:=hs;unfold zNJ;simp only
   rw[show decide ((x.zA.length:Int)<(b.length:Int))=jg from jh (by omega),zJ];exact⟨_,rfl,sf,z0⟩) (s:=(y,0)) ⟨y,rfl,Sf.refl hy,fun j hj=>by omega⟩
 unfold zYP;rw[tE (by rw[zBs h hc hy];omega),bs,r1,bs];cases r with
 |inl z=>exact⟨z,x.zA.length,by simp only[hb],r2.1,Je _,r2.2,fun hh=>absurd hh (Jam _)⟩
 |inr p=>
  obtain⟨z,d,rfl,p1,p2,p3,p4,p5⟩:=r2;exact⟨z,d,rfl,p1,by omega,p3,fun _=>⟨p4,p5⟩⟩
theorem zPe{b:Mx}(hb:b.length=x.zA.length)(hT:Tab (V (suf x 0)) x.zA.length (fun v d=>at0 v d) (tbl b))(hy:V (suf x 0) y)(hd:d<x.zA.length)(hn:tbl b d=je){s:Mx×Mx}(hs:s.1=b){g:Int×List Int}(hg:g.1=(d:Int))(hQ:Q.length<=100000):
  ∃W:Mx,zG (zSO x s g y) (Q,0)=jd (Q++W)/\W.length<=x.zA.length/\(∀w∈W,V (suf x 0) w/\ ∃k u,tbl b k=jd u/\mul (suf x 0) (mul (suf x 0) u y) w=mul (suf x 0) y u)/\
   ∀k u,tbl b k=jd u-> ∃w,w∈W/\mul (suf x 0) (mul (suf x 0) u y) w=mul (suf x 0) y u:=by
 have h6:=h.os.1;obtain⟨r,r1,W,rfl,r2,r3,r4⟩:=wV (body:=zSO x s g y)
  (Q:=fun r=> ∃W:Mx,r=Q++W/\W.length<=x.zA.length/\(∀w∈W,V (suf x 0) w/\ ∃k u,tbl b k=jd u/\mul (suf x 0) (mul (suf x 0) u y) w=mul (suf x 0) y u)/\
   ∀k u,tbl b k=jd u-> ∃w,w∈W/\mul (suf x 0) (mul (suf x 0) u y) w=mul (suf x 0) y u)
  (fun i s=> ∃W:Mx,s=(Q++W,(i:Int))/\W.length<=i/\(∀w∈W,V (suf x 0) w/\ ∃k u,tbl b k=jd u/\mul (suf x 0) (mul (suf x 0) u y) w=mul (suf x 0) y u)/\
   ∀k u,k<i->tbl b k=jd u-> ∃w,w∈W/\mul (suf x 0) (mul (suf x 0) u y) w=mul (suf x 0) y u) x.zA.length (fun i s' hi gF=>by
   obtain⟨W,rfl,w1,w2,w3⟩:=gF;left;unfold zSO;simp only[hs,hg];rw[yS hi,zH]
   by_cases e:i=d
   ·subst e
    rw[show(((i:Nat):Int) != (i:Int))=jg from by simp,zJ,zB,bs,cs];refine⟨_,rfl,W,rfl,by omega,w2,fun k u hk hu=>?_⟩
    by_cases e:k=i
    ·subst e;rw[hn]at hu;cases hu
    ·exact w3 k u (by omega) hu
   ·rw[show(((i:Nat):Int) != (d:Int))=jf from by simp;omega,zH,show((d:Nat):Int).toNat=d from rfl,yA [] (by rw[Hf];omega),bs]
    rw[show(b.set d y).getD i []=b.getD i []from by rw[J2,Jb2 (fun g=>e g.symm),<-J2]];cases ht:b.getD i []with
    |nil=>
     rw[show decide (((([]:List Int)).length:Int)> 0)=jg from rfl,zJ,zB,bs,cs];refine⟨_,rfl,W,rfl,by omega,w2,fun k u hk hu=>?_⟩
     by_cases e:k=i
     ·subst e
      rw[tG.2 ht]at hu;cases hu
     ·exact w3 k u (by omega) hu
    |cons t0 ts=>
     have eQ:tbl b i=jd (t0::ts):=qU.2 ⟨ht,by simp⟩;obtain⟨_,t2,_,_⟩:=hT.h eQ;obtain⟨w,v1,v2,v3⟩:=zVr h hc hy t2;rw[show decide ((((t0::ts):List Int).length:Int)> 0)=jf from ji (by simp only[J7];omega),zH,v3,bs,zV (by simp only[J5,Jb];omega),bs,zB,bs,cs];refine⟨_,rfl,W++[w],by rw[Jg],by simp only[J5,Jb];omega,fun a ha=>?_,fun k u hk hu=>?_⟩
     ·rcases Ja.1 ha with ha|ha
      ·exact w2 a ha
      ·simp at ha;subst ha
       exact⟨v1,i,_,eQ,v2⟩
     ·by_cases e:k=i
      ·subst e
       rw[eQ]at hu;cases hu;exact⟨w,by simp,v2⟩
      ·obtain⟨a,a1,a2⟩:=w3 k u (by omega) hu
       exact⟨a,by simp[a1],a2⟩) (fun s' gF=>by
   obtain⟨W,rfl,w1,w2,w3⟩:=gF;unfold zSO;simp only
   rw[tQ,zJ];exact⟨_,rfl,W,rfl,w1,w2,fun k u hu=>w3 k u (hT.h hu).1 hu⟩) (s:=(Q,0)) ⟨[],by simp,Je _,by simp,fun k u hk=>by omega⟩
 exact⟨W,r1,r2,r3,r4⟩
theorem zPf{L:Vec->Prop}(hL:∀a,L a->V (suf x 0) a){b:Mx}(hb:b.length=x.zA.length){q:Vec}(hW:WlB x L b (Q++[q]))(hQ:Q.length<=10000):
  ∃(b':Mx)(Q':Mx),zSP x (b,Q++[q])=jd (.inl (b',Q'))/\b'.length=x.zA.length/\WlB x L b' Q'/\
   (b'=b/\Q'=Q\/qB b'+1=qB b/\Q'.length<=Q.length+x.zA.length+2):=by
 have h6:=h.os.1;have F:=zBS h hc;have G:=g0 h hc;have hq:=hW.q q (by simp);obtain⟨z,d,s1,sf,s3,s4,s5⟩:=zPd h hc hb hW.t hq.1;have hz:=sf.s;have ch:=zBs h hc hz;unfold zSP;simp only
 have gf:((Q++[q]).length:Int)=(Q.length:Int)+1:=by simp
 rw[show decide (((Q++[q]).length:Int)> 0)=jf from ji,zH,gf,show(Q.length:Int)+1-1=(Q.length:Int)from by omega,zB,bs];rw[show ixO (Q++[q]) (Q.length:Int)=jd q from by rw[vD,Jm (Je _),Kn];rfl,bs];rw[show zR (Q++[q]) 0 (Q.length:Int)=jd Q from by unfold zR;rw[if_pos ⟨by omega,by omega,by omega⟩];simp,bs,s1,bs]
 dsimp only
 by_cases hd:d<x.zA.length
 ·obtain⟨n1,n2⟩:=s5 hd
  have eI:=h.os.2 d hd;have hp7:=eI.pos;have hr:=F.r hz hd;obtain⟨v,v1,v2,v3,v4⟩:=zMC eI (x:=at0 z d) (by have:=hr.1;omega) (by have:=hr.2;omega);have pq:V (suf x 0) (pw (mul (suf x 0)) (zeros (suf x 0).length) z v.toNat):=wS G.toMon hz _;obtain⟨y,po⟩:∃y,y=pw (mul (suf x 0)) (zeros (suf x 0).length) z v.toNat:=⟨_,rfl⟩;rw[<-po]at pq;have mQ:=F.pwc hd hz s4 v.toNat;rw[<-po]at mQ;have eD:at0 y d=1:=by have:=mQ.2;rw[this,show((v.toNat:Nat):Int)=v from by omega,Gz];exact v4
  have a7:V (suf x 0) (pw (mul (suf x 0)) (zeros (suf x 0).length) y (at0 x.zA d).toNat):=wS G.toMon pq _;have cJ:y≠[]:=zIj (d:=d) (by rw[eD];decide);rw[show(((d:Nat):Int)==(x.zA.length:Int))=jg from by simp;omega,zJ,yA 0,bs,yA 0 hd,bs];rw[show z.getD d 0=at0 z d from rfl,show x.zA.getD d 0=at0 x.zA d from rfl,v1,bs,zVq h hc hz v2 (by omega),bs,<-po,yA [],bs,zV (by simp only[Jb];omega),bs];rw[zVq h hc pq (by omega) (by omega),bs,zV (by simp only[J5,Jb];omega),bs];obtain⟨W,W1,W2,W3,W4⟩:=zPe h hc hb hW.t pq hd n2 (s:=(b,Q++[q])) rfl (g:=((d:Int),z)) rfl (Q:=Q++[z]++[pw (mul (suf x 0)) (zeros (suf x 0).length) y (at0 x.zA d).toNat]) (by simp only[J5,Jb];omega);rw[W1,bs];refine⟨_,_,rfl,by rw[Hf];exact hb,?_,.inr ⟨zIi b d y (by omega) (tG.1 n2) cJ,by simp only[J5,Jb];omega⟩⟩;rw[show((d:Nat):Int).toNat=d from rfl];have gv:=zLc (b:=b) (d:=d) (y:=y) (by omega) cJ;have tx:vP x L z:=sf.h L hL hW.th hq.2;have pt:vP x L y:=by rw[po];exact tx.pw _
  rw[WlB,gv];refine Wl.add F hW hd n2 pq pt mQ.1 eD (x:=q) (fun k hk=>?_) (fun a ha=>?_) (fun a ha=>?_) (by simp) (fun k u hu=>?_)
  ·have j5:∀k t,tbl b k=jd t->(fun j=>if j=d then jd y else tbl b j) k=jd t:=fun k t hk=>by
    show(if k=d then jd y else tbl b k)=jd t;rw[if_neg]
    ·exact hk
    ·intro e;rw[e,n2]at hk;cases hk
   have j8:∀a∈Q++[z]++[pw (mul (suf x 0)) (zeros (suf x 0).length) y (at0 x.zA d).toNat]++W,V (suf x 0) a:=fun a ha=>by
    simp only[Ja,List.mem_singleton]at ha;rcases ha with((ha|rfl)|rfl)|ha
    ·exact(hW.q a (by simp[ha])).1
    ·exact hz
    ·exact a7
    ·exact(W3 a ha).1
   have:=sf.g k (Q++[z]++[pw (mul (suf x 0)) (zeros (suf x 0).length) y (at0 x.zA d).toNat]++W) j8 hk (.x (.inr ⟨by simp,fun j hj fL=>sf.d k hk j hj fL⟩));exact this.tr j5 fun a ha k hk=>.x (.inr ⟨ha,hk⟩)
  ·simp only[Ja,List.mem_singleton]at ha
   rcases ha with((ha|rfl)|rfl)|ha
   ·exact hW.q a (by simp[ha])
   ·exact⟨hz,tx⟩
   ·exact⟨a7,pt.pw _⟩
   ·obtain⟨a1,k,u,a2,a3⟩:=W3 a ha
    refine⟨a1,Gen.right G hL (.m (hW.th a2) pt) a1 ?_⟩;rw[a3];exact .m pt (hW.th a2)
  ·simp only[Ja,List.mem_singleton]at ha
   rcases ha with ha|rfl
   ·exact .inr (by simp[ha])
   ·exact .inl rfl
  ·obtain⟨w,w1,w2⟩:=W4 k u hu
   exact⟨w,by simp[w1],.inl w2⟩
 ·rw[show(((d:Nat):Int)==(x.zA.length:Int))=jf from by simp;omega,zH]
  refine⟨b,Q,rfl,hb,?_,.inl ⟨rfl,rfl⟩⟩;have dI:z=zeros (suf x 0).length:=F.ex hz G.ein fun j hj=>by have e0:=F.e0 hj;rw[e0,s4 j (by omega)]
  refine Wl.drop hW (x:=q) (fun k hk=>?_) (fun a ha=>by simp[ha]) (fun a ha=>by simp at ha;rcases ha with ha|ha;exact .inr ha;exact .inl ha);exact sf.g k Q (fun a ha=>(hW.q a (by simp[ha])).1) hk (by rw[dI];exact .one)
end
section
variable {x:SPr} (h:Pres x) (hc:xC (suf x 0))
 include h hc
theorem zPg{L:Vec->Prop}{b D:Mx}(hb:b.length=x.zA.length)(hD:D.length=x.zA.length)(hI:CI x L b (d+1) (tbl D))(hd:d<x.zA.length){s:Mx×Int}(hs:s.1=D){t:Vec}(hT:V (suf x 0) t)(hg:vP x L t)(hz:∀i,i<d->at0 t i=0)(h1:at0 t d=1)(hL:∀a,L a->V (suf x 0) a):
  ∃r,zG (zWX x b s) (t,((d+1:Nat):Int))=jd r/\Rd (V (suf x 0)) (mul (suf x 0)) (zeros (suf x 0).length) x.zA.length (fun v j=>at0 v j) L (tbl D) d x.zA.length r:=by
 have h6:=h.os.1;have F:=zBS h hc;have _:=hL;obtain⟨r,r1,r2⟩:=vX (body:=zWX x b s) (Q:=fun r=>Rd (V (suf x 0)) (mul (suf x 0)) (zeros (suf x 0).length) x.zA.length (fun v j=>at0 v j) L (tbl D) d x.zA.length r)
  (fun st=> ∃(k:Nat)(y:Vec),st=(y,(k:Int))/\d<k/\k<=x.zA.length/\Rd (V (suf x 0)) (mul (suf x 0)) (zeros (suf x 0).length) x.zA.length (fun v j=>at0 v j) L (tbl D) d k y) (fun st=>x.zA.length-st.2.toNat) (fun st gA=>by
   obtain⟨k,y,rfl,k1,k2,hR⟩:=gA;have hy:=hR.s;unfold zWX;simp only[hs]
   by_cases hk:k<x.zA.length
   ·left
    rw[show decide ((k:Int)<(b.length:Int))=jf from ji,zH,yA [],bs];cases ht:D.getD k []with
    |nil=>
     rw[show decide (((([]:List Int)).length:Int)> 0)=jg from rfl,zJ,zB,bs,cs];exact⟨_,rfl,⟨k+1,y,rfl,by omega,by omega,hR.skip (.inl (tG.2 ht))⟩,by simp only[J8];omega⟩
    |cons t0 ts=>
     have eQ:tbl D k=jd (t0::ts):=qU.2 ⟨ht,by simp⟩;obtain⟨_,t2,t3,t4⟩:=hI.c eQ;rw[show decide ((((t0::ts):List Int).length:Int)> 0)=jf from ji (by simp only[J7];omega),zH,yA 0 (by rw[zBs h hc hy];exact hk),bs]
     by_cases h0:at0 y k=0
     ·rw[show(y.getD k 0 != 0)=jg from by simpa using h0,zJ,zB,bs,cs]
      exact⟨_,rfl,⟨k+1,y,rfl,by omega,by omega,hR.skip (.inr h0)⟩,by simp only[J8];omega⟩
     ·obtain⟨w,w1,w2,w3,w4,w5⟩:=zJJ h hc hk t2 t3 t4 hy h0 ht
      have hr:=F.r hy hk;have eI:=(h.os.2 k hk).pos;have hw:vP x L w:=w3 hL (hI.g eQ);rw[show(y.getD k 0 != 0)=jf from by simpa using h0,zH,bs,bs,show y.getD k 0=at0 y k from rfl,zB (by have:=hr.2;omega) (by have:=hr.1;omega),bs,w1,bs,zIh h hc hy w2,bs,zB,bs,cs];exact⟨_,rfl,⟨k+1,_,rfl,by omega,by omega,hR.step F k1 hk w2 hw w4 w5⟩,by simp only[J8];omega⟩
   ·right
    have e:k=x.zA.length:=by omega
    subst e;rw[show decide ((x.zA.length:Int)<(b.length:Int))=jg from jh (by omega),zJ];exact⟨_,rfl,hR⟩) 1000 (t,((d+1:Nat):Int)) (by simp only;omega) ⟨d+1,t,rfl,by omega,by omega,hT,hg,hz,h1,fun i hi eR=>by omega⟩
 exact⟨r,r1,r2⟩
theorem zVv{D:Mx}(hD:D.length=x.zA.length):zG (zSN D) ([],0)=jd (xZ (tbl D) 0 x.zA.length):=by
 have h6:=h.os.1;have _:=hc;have:=zN (body:=zSN D) (r:=xZ (tbl D) 0 x.zA.length) (fun i=>(xZ (tbl D) 0 i,(i:Int))) x.zA.length (fun i hi=>by
  have hl:=zC9 (tbl D) 0 i;unfold zSN;simp only
  rw[show decide ((i:Int)<(D.length:Int))=jf from ji,zH,yA [],bs,zYo,Ji];cases ht:D.getD i []with
  |nil=>
   rw[show decide (((([]:List Int)).length:Int)> 0)=jg from rfl,zJ,zB,bs,cs,tG.2 ht];simp
  |cons t0 ts=>
   rw[show decide ((((t0::ts):List Int).length:Int)> 0)=jf from ji (by simp only[J7];omega),zH,bs,zV (by simp only[Jb];omega),bs,zB,bs,cs,(qU (t:=t0::ts)).2 ⟨ht,by simp⟩]) (by
  unfold zSN;simp only
  rw[show decide ((x.zA.length:Int)<(D.length:Int))=jg from jh (by omega),zJ])
 exact this
theorem zSi{L:Vec->Prop}(hL:∀a,L a->V (suf x 0) a){b:Mx}(hb:b.length=x.zA.length)(hW:WlB x L b []):∃C,f_F x b=jd (xZ C 0 x.zA.length)/\zAt x L C:=by
 have h6:=h.os.1;have e0:tbl (J1 x.zA.length [])=fun _=>je:=by
  funext k
  rw[tG,J2,K4];split<;>rfl
 obtain⟨D,r1,r2,r3⟩:=vX (body:=zYQ x b) (Q:=fun D=>D.length=x.zA.length/\CI x L b 0 (tbl D))
  (fun s=> ∃(d:Nat)(D:Mx),s=(D,(d:Int)-1)/\d<=x.zA.length/\D.length=x.zA.length/\CI x L b d (tbl D)) (fun s=>(s.2+1).toNat) (fun s hs=>by
   obtain⟨d,D,rfl,hd,hD,hI⟩:=hs;unfold zYQ;simp only
   cases d with
   |zero=>
    right;rw[show decide (((0:Nat):Int)-1>=0)=jg from rfl,zJ];exact⟨_,rfl,hD,hI⟩
   |succ d=>
    left;rw[show(((d+1:Nat):Int)-1)=(d:Int)from by omega,show decide ((d:Int)>=0)=jf from ji,zH,yA [],bs];cases ht:b.getD d []with
    |nil=>
     obtain⟨i1,_⟩:=hI.skip (by omega) (tG.2 ht);rw[show(((([]:List Int)).length:Int)==0)=jf from rfl,zH,zB,bs];exact⟨_,rfl,⟨d,D,rfl,by omega,hD,i1⟩,by simp only;omega⟩
    |cons t0 ts=>
     have eQ:tbl b d=jd (t0::ts):=qU.2 ⟨ht,by simp⟩;obtain⟨t1,t2,t3,t4⟩:=hW.t.h eQ;obtain⟨r,e1,e2⟩:=zPg h hc hb hD hI (by omega) (s:=(D,(d:Int))) rfl t2 (hW.th eQ) t3 t4 hL;obtain⟨i1,_⟩:=hI.put (by omega) eQ e2;have u6:r≠[]:=zIj (d:=d) (by have:=e2.o;rw[this];decide);rw[show((((t0::ts):List Int).length:Int)==0)=jg from by simp;omega,zJ,bs,zB,bs,cs,e1,bs,yA [],bs,zB,bs,show((d:Nat):Int).toNat=d from rfl];refine⟨_,rfl,⟨d,_,rfl,by omega,by rw[Hf];exact hD,?_⟩,by simp only;omega⟩;rw[zLc (by omega) u6];exact i1) 1000 (J1 x.zA.length [],(x.zA.length:Int)-1) (by simp only;omega) ⟨x.zA.length,_,rfl,Je _,by simp,by rw[e0];exact CI.start hb⟩
 refine⟨tbl D,?_,r3.can h hc hW⟩;unfold f_F;rw[hb,yH,bs,zB,bs,r1,bs,zVv h hc r2,bs]
theorem zDS(hM:∀a∈M,V (suf x 0) a)(hl:M.length<=1000):∃C,f_H x M=jd (xZ C 0 x.zA.length)/\zAt x (· ∈M) C:=by
 have h6:=h.os.1;obtain⟨b,r1,r2,r3⟩:=vX (body:=zSP x) (Q:=fun b=>b.length=x.zA.length/\WlB x (· ∈M) b [])
  (fun s=> ∃(b Q:Mx),s=(b,Q)/\b.length=x.zA.length/\WlB x (· ∈M) b Q/\qB b*20+Q.length<=2000) (fun s=>qB s.1*20+s.2.length) (fun s hs=>by
   obtain⟨b,Q,rfl,hb,hW,hm⟩:=hs;rcases List.eq_nil_or_concat Q with rfl|⟨Q,q,rfl⟩
   ·right
    unfold zSP;simp only
    rw[show decide ((([]:Mx).length:Int)> 0)=jg from rfl,zJ];exact⟨_,rfl,hb,hW⟩
   ·left
    rw[List.concat_eq_append]at hW hm ⊢
    simp only[J5,Jb]at hm;obtain⟨b',Q',e1,e2,e3,e4⟩:=zPf h hc (L:=(· ∈M)) (fun a ha=>hM a ha) hb hW (by omega);refine⟨_,e1,⟨b',Q',rfl,e2,e3,?_⟩,?_⟩
    ·rcases e4 with⟨rfl,rfl⟩|⟨e4,e5⟩<;>omega
    ·simp only[J5,Jb]
     rcases e4 with⟨rfl,rfl⟩|⟨e4,e5⟩<;>omega) 100000 (J1 x.zA.length [],M) (by have:=zBF (J1 x.zA.length []);simp only[Jk]at this ⊢;omega) ⟨_,M,rfl,by simp,zFG h hc hM,by have:=zBF (J1 x.zA.length []);simp only[Jk]at this;omega⟩
 obtain⟨C,c1,c2⟩:=zSi h hc (L:=(· ∈M)) (fun a ha=>hM a ha) r2 r3;refine⟨C,?_,c2⟩;unfold f_H;rw[yH,bs,zF3 (by omega) (fun i hi=>by have:=hM (M.getD i []) (by rw[J2,J3 hi];exact Js hi);rw[zBs h hc this];omega),bs,r1,bs,c1,bs]
theorem zIm(hM:∀a∈M,V (suf x 0) a)(hl:M.length<=1000):∃C,f_H x M=jd (xZ C 0 x.zA.length)/\zXa x M=jd (xZ C 0 x.zA.length)/\zAt x (· ∈M) C:=by obtain⟨C,c1,c2⟩:=zDS h hc hM hl;obtain⟨D,d1,d2⟩:=zIl h hc hM hl;have e:=Pc.Can.uniq (zBS h hc) (fun ha hb=>Gen.m ha hb) (fun ha hb fC=>Gen.i ha hb fC) c2 d2;exact⟨C,c1,by rw[d1,zEU _ _ fun j _=>(e j).symm],c2⟩
end
section
variable {x:SPr} (h:Pres x) (hc:xC (suf x 0))
 include h hc
theorem zVw{L:Vec->Prop}(hL:∀a,L a->V (suf x 0) a){b:Mx}(hb:b.length=x.zA.length)(hW:WlB x L b [])(hM:∀a∈M,V (suf x 0) a)(hl:M.length<=1000):
  ∃(g:Bool)(b':Mx),f_E ⟨x,b⟩ M=jd (g,⟨x,b'⟩)/\b'.length=x.zA.length/\WlB x (fun a=>L a\/a∈M) b' []/\(b'=b/\g=jg/\(∀a∈M,vP x L a)\/qB b'<qB b/\g=jf):=by
 have hW2:=Wl.more hW (M:=M) hM;obtain⟨g,b',e1,e2,e3,e4⟩:=zJG h hc (fun a ha=>by
  rcases ha with ha|ha
  ·exact hL a ha
  ·exact hM a ha) hb hW2 hl
 refine⟨g,b',e1,e2,e3,?_⟩;rcases e4 with⟨rfl,e4⟩|e4
 ·refine .inl ⟨rfl,e4,fun a ha=>(e3.g a (.inr ha)).to fun c hc=>?_⟩
  rcases hc with⟨j,h1,h2⟩|⟨h1,_⟩
  ·exact hW.th h2
  ·simp at h1
 ·exact .inr e4
theorem zIn{L M:Vec->Prop}{D:Nat->Option Vec}(hC:zAt x L C)(hD:zAt x M D)(hs:∀a,vP x L a↔vP x M a):xZ C 0 x.zA.length=xZ D 0 x.zA.length:=by
 have e:vP x L=vP x M:=funext fun a=>propext (hs a)
 have hC':zAt x M C:=by unfold zAt at hC ⊢;rw[<-e];exact hC
 have u:=Pc.Can.uniq (zBS h hc) (fun ha hb=>Gen.m ha hb) (fun ha hb fC=>Gen.i ha hb fC) hC' hD;exact zEU _ _ fun j _=>u j
theorem zRh{L M:Vec->Prop}(hM:∀a,M a->V (suf x 0) a){D:Nat->Option Vec}(hC:zAt x L C)(hD:zAt x M D)(hs:∀a,vP x L a->vP x M a)(hl:(xZ C 0 x.zA.length).length=(xZ D 0 x.zA.length).length)(a:Vec):vP x L a↔vP x M a:=by
 have F:=zBS h hc;refine⟨hs a,fun ha=>?_⟩;have er:∀k∈K7 0 x.zA.length,(C k).isSome=jf->(D k).isSome=jf:=fun k _ hk=>Pc.Can.sub F hC hD hs hk
 have e:=(Pc.some_len _ er).2 hl;exact Pc.Can.back F hM hC hD hs (fun k hk h1=>e k (by simp[Jb8];omega) h1) ha
theorem zEV{L:Vec->Prop}(hL:∀a,L a->V (suf x 0) a)(hC:zAt x L C)(a:Vec):vP x L a↔vP x (· ∈xZ C 0 x.zA.length) a:=by
 have F:=zBS h hc;constructor
 ·intro ha
  refine(Pc.Can.gen F hL hC ha).mono fun c hc=>?_
  obtain⟨⟨k,hk⟩,_⟩:=hc;have eY:=(hC.i hk).1;exact Jai.2 ⟨k,by simp[Jb8];omega,hk⟩
 ·intro ha
  refine ha.to fun c hc=>?_
  obtain⟨k,_,hk⟩:=Jai.1 hc;exact(hC.i hk).2.1
end
section
variable {x:SPr} (h:Pres x) (hc:xC (suf x 0))
 include h hc
theorem yEb{b:Vec}(ha:V (suf x 0) a)(hb:V (suf x 0) b):∃c,V (suf x 0) c/\mul (suf x 0) b c=mul (suf x 0) a b/\zIG x a b=jd c/\zXc x a b=jd c:=by
 have ok:=ok0 h hc;have G:=g0 h hc;obtain⟨c,c1,c2,c3⟩:=qS h (k:=0) (by omega) hc ha hb;simp only[fv0]at c3;obtain⟨w,w1,w2,w3⟩:=zHH h hc hb;have fC:=yO ok ha hb;refine⟨c,c1,c2,c3,?_⟩;have e:mul (suf x 0) w (mul (suf x 0) a b)=c:=G.cancel_l hb (yO ok w1 fC) c1 (by rw[<-G.assoc hb w1 fC,w2,G.onel fC,c2]);unfold zXc;rw[w3,bs,zIh h hc ha hb,bs,zIh h hc w1 fC,bs,e]
 omit h hc in
noncomputable def cjf (x:SPr) (a b:Vec):Vec:=(zIG x a b).getD []
theorem kJ{b:Vec}(ha:V (suf x 0) a)(hb:V (suf x 0) b):V (suf x 0) (cjf x a b)/\mul (suf x 0) b (cjf x a b)=mul (suf x 0) a b/\zIG x a b=jd (cjf x a b)/\zXc x a b=jd (cjf x a b):=by
 obtain⟨c,c1,c2,c3,c4⟩:=yEb h hc ha hb;have:cjf x a b=c:=by rw[cjf,c3];rfl
 rw[this];exact⟨c1,c2,c3,c4⟩
theorem zGr(hu:∀a∈u,V (suf x 0) a){b:Vec}(hb:V (suf x 0) b)(hl:u.length<=1000):zYW x u b=jd (u.map fun a=>cjf x a b):=by
 have l:=zN (body:=zNP x u b) (r:=u.map fun a=>cjf x a b) (fun i=>((u.take i).map fun a=>cjf x a b,(i:Int))) u.length (fun i hi=>by
  have hm:V (suf x 0) (u.getD i []):=hu _ (by rw[J2,J3 hi];exact Js hi);unfold zNP;simp only
  rw[show decide ((i:Int)<(u.length:Int))=jf from ji,zH,yA [] hi,bs,(kJ h hc hm hb).2.2.1,bs,zV (by simp only[Jf,Kd,Jb];omega),bs,zB,bs];rw[Lg,K6,J3 hi,J2,J3 hi];rfl) (by
  unfold zNP;simp only
  rw[show decide ((u.length:Int)<(u.length:Int))=jg from jh (by omega),zJ,Lm])
 unfold zYW;rw[show((0:Nat):Int)=0 from rfl,Kc,La]at l;rw[l,bs]
theorem zPh{B:Mx}(hB:∀a∈B,V (suf x 0) a)(pm:B.length<=1000){L0:Vec->Prop}(h0:∀a,L0 a->V (suf x 0) a)(n0:∀a,L0 a->NCl (V (suf x 0)) (mul (suf x 0)) (zeros (suf x 0).length) (· ∈M) (· ∈B) a)
  {b0:Mx}(d9:b0.length=x.zA.length)(hW0:WlB x L0 b0 [])(hu:∀a∈u,V (suf x 0) a/\vP x L0 a)(gT:u.length<=1000):
  ∃(b:Mx)(g:Bool)(L:Vec->Prop),zG (zJS x B u) (x,b0,jg,0)=jd (x,b,g)/\b.length=x.zA.length/\WlB x L b []/\(∀a,L a->V (suf x 0) a)/\(∀a,L0 a->L a)/\
   (∀a,L a->NCl (V (suf x 0)) (mul (suf x 0)) (zeros (suf x 0).length) (· ∈M) (· ∈B) a)/\(g=jg/\b=b0/\(∀a,L a->vP x L0 a)/\(∀c∈B,∀a∈u,vP x L0 (cjf x a c))\/g=jf/\qB b<qB b0):=by
 have G:=g0 h hc;obtain⟨r,r1,b,g,L,rfl,r2⟩:=wV (body:=zJS x B u)
  (Q:=fun r=> ∃(b:Mx)(g:Bool)(L:Vec->Prop),r=(x,b,g)/\b.length=x.zA.length/\WlB x L b []/\(∀a,L a->V (suf x 0) a)/\(∀a,L0 a->L a)/\
   (∀a,L a->NCl (V (suf x 0)) (mul (suf x 0)) (zeros (suf x 0).length) (· ∈M) (· ∈B) a)/\(g=jg/\b=b0/\(∀a,L a->vP x L0 a)/\(∀c∈B,∀a∈u,vP x L0 (cjf x a c))\/g=jf/\qB b<qB b0))
  (fun i s=> ∃(b:Mx)(g:Bool)(L:Vec->Prop),s=(x,b,g,(i:Int))/\b.length=x.zA.length/\WlB x L b []/\(∀a,L a->V (suf x 0) a)/\(∀a,L0 a->L a)/\
   (∀a,L a->NCl (V (suf x 0)) (mul (suf x 0)) (zeros (suf x 0).length) (· ∈M) (· ∈B) a)/\(g=jg/\b=b0/\(∀a,L a->vP x L0 a)/\(∀j,j<i-> ∀a∈u,vP x L0 (cjf x a (B.getD j [])))\/g=jf/\qB b<qB b0)) B.length (fun i s hi hs=>by
   obtain⟨b,g,L,rfl,hb,hW,hV,hs,hn,hg⟩:=hs;left;have hm:B.getD i []∈B:=by rw[J2,J3 hi];exact Js hi
   have iW:=hB _ hm;have eL:∀a∈u.map (fun a=>cjf x a (B.getD i [])),V (suf x 0) a:=fun a ha=>by obtain⟨a0,q1,rfl⟩:=Jc.1 ha;exact(kJ h hc (hu a0 q1).1 iW).1
   obtain⟨g',b',e1,e2,e3,e4⟩:=zVw h hc hV hb hW eL (by rw[Jf];exact gT);have hV':∀a,(L a\/a∈u.map (fun a=>cjf x a (B.getD i [])))->V (suf x 0) a:=fun a ha=>ha.elim (hV a) (eL a)
   have pW:∀a,vP x L0 a->NCl (V (suf x 0)) (mul (suf x 0)) (zeros (suf x 0).length) (· ∈M) (· ∈B) a:=fun a ha=>by
    induction ha with
    |one=>exact .one
    |x hx=>exact n0 _ hx
    |m _ _ i1 i2=>exact .m i1 i2
    |i _ hb hh i1=>exact .i i1 hb hh
   have hn':∀a,(L a\/a∈u.map (fun a=>cjf x a (B.getD i [])))->NCl (V (suf x 0)) (mul (suf x 0)) (zeros (suf x 0).length) (· ∈M) (· ∈B) a:=fun a ha=>ha.elim (hn a) fun ha=>by obtain⟨a0,q1,rfl⟩:=Jc.1 ha;obtain⟨k1,k2,_,_⟩:=kJ h hc (hu a0 q1).1 iW;exact .c (pW a0 (hu a0 q1).2) hm k1 k2
   unfold zJS;simp only
   rw[show decide ((i:Int)<(B.length:Int))=jf from ji,zH,yA [] hi,bs,zGr h hc (fun a ha=>(hu a ha).1) iW gT,bs,e1,bs];rcases e4 with⟨rfl,rfl,q⟩|⟨q,rfl⟩
   ·simp only
    rw[zJ,zB,bs];refine⟨_,rfl,b',g,_,rfl,e2,e3,hV',fun a ha=>.inl (hs a ha),hn',?_⟩;rcases hg with⟨rfl,rfl,k1,k2⟩|hg
    ·refine .inl ⟨rfl,rfl,fun a ha=>ha.elim (k1 a) fun ha=>(q a ha).to fun c hc=>k1 c hc,fun j hj a ha=>?_⟩
     by_cases hji:j=i
     ·subst hji
      exact(q _ (Jc.2 ⟨a,ha,rfl⟩)).to fun c hc=>k1 c hc
     ·exact k2 j (by omega) a ha
    ·exact .inr hg
   ·simp only
    rw[zH,zB,bs];refine⟨_,rfl,b',jf,_,rfl,e2,e3,hV',fun a ha=>.inl (hs a ha),hn',.inr ⟨rfl,?_⟩⟩;rcases hg with⟨_,rfl,_⟩|⟨_,hg⟩<;>omega) (fun s hs=>by
   obtain⟨b,g,L,rfl,hb,hW,hV,hs,hn,hg⟩:=hs;unfold zJS;simp only
   rw[show decide ((B.length:Int)<(B.length:Int))=jg from jh (by omega),zJ];refine⟨_,rfl,b,g,L,rfl,hb,hW,hV,hs,hn,?_⟩;rcases hg with⟨k0,k1,k2,k3⟩|hg
   ·refine .inl ⟨k0,k1,k2,fun c hcB a ha=>?_⟩
    obtain⟨j,hj,rfl⟩:=List.getElem_of_mem hcB;have:=k3 j hj a ha
    rwa [J2,J3 hj]at this
   ·exact .inr hg) ⟨b0,jg,L0,rfl,d9,hW0,h0,fun _ h=>h,n0,.inl ⟨rfl,rfl,fun a ha=>.x ha,fun j hj=>by omega⟩⟩
 exact⟨b,g,L,r1,r2⟩
theorem zLe{B:Mx}(hM:∀a∈M,V (suf x 0) a)(ja:M.length<=1000)(hB:∀a∈B,V (suf x 0) a)(pm:B.length<=1000):
  ∃(L:Vec->Prop)(C:Nat->Option Vec),zYX x M B=jd (xZ C 0 x.zA.length)/\zAt x L C/\(∀a,L a->V (suf x 0) a)/\ ∀a,vP x L a↔NCl (V (suf x 0)) (mul (suf x 0)) (zeros (suf x 0).length) (· ∈M) (· ∈B) a:=by
 have h6:=h.os.1;have G:=g0 h hc;obtain⟨g,b,e1,e2,e3⟩:=zNf h hc (L:=(· ∈M)) (fun a ha=>hM a ha) (b:=J1 x.zA.length []) (by simp) (zFG h hc hM) ja;obtain⟨r,r1,b',L,rfl,gZ,hW,hV,dD,hn,gy⟩:=vX (body:=zRt x B)
  (Q:=fun r=> ∃(b:Mx)(L:Vec->Prop),r=(x,b)/\b.length=x.zA.length/\WlB x L b []/\(∀a,L a->V (suf x 0) a)/\(∀a,a∈M->L a)/\
   (∀a,L a->NCl (V (suf x 0)) (mul (suf x 0)) (zeros (suf x 0).length) (· ∈M) (· ∈B) a)/\(∀a b c,vP x L a->b∈B->V (suf x 0) c->mul (suf x 0) b c=mul (suf x 0) a b->vP x L c))
  (fun s=> ∃(b:Mx)(g:Bool)(L:Vec->Prop),s=(x,b,g)/\b.length=x.zA.length/\WlB x L b []/\(∀a,L a->V (suf x 0) a)/\(∀a,a∈M->L a)/\
   (∀a,L a->NCl (V (suf x 0)) (mul (suf x 0)) (zeros (suf x 0).length) (· ∈M) (· ∈B) a)/\(g=jf\/g=jg/\(∀a b c,vP x L a->b∈B->V (suf x 0) c->mul (suf x 0) b c=mul (suf x 0) a b->vP x L c)))
  (fun s=>qB s.2.1*2+(if s.2.2 then 1 else 0)) (fun s hs=>by
   obtain⟨b,g,L,rfl,hb,hW,hV,dD,hn,hg⟩:=hs;unfold zRt;simp only
   cases g with
   |false=>
    right;rw[zJ];rcases hg with hg|⟨_,hg⟩
    ·cases hg
    ·exact⟨_,rfl,b,L,rfl,hb,hW,hV,dD,hn,hg⟩
   |true=>
    left;rw[zH];obtain⟨C,c1,c2⟩:=zDR h hc hb hW;have pL:=zEV h hc hV c2;have hu:∀a∈xZ C 0 x.zA.length,V (suf x 0) a/\vP x L a:=fun a ha=>by have:=(pL a).2 (.x ha);exact⟨this.in G hV,this⟩
    have gT:=zC9 C 0 x.zA.length;obtain⟨b2,g2,L2,r1,r2,r3,r4,r5,r6,r7⟩:=zPh h hc hB pm hV hn hb hW hu (by omega);rw[c1,bs,r1,bs];refine⟨_,rfl,⟨b2,g2,L2,rfl,r2,r3,r4,fun a ha=>r5 a (dD a ha),r6,?_⟩,?_⟩
    ·rcases r7 with⟨k0,k1,k2,k3⟩|⟨k0,_⟩
     ·refine .inr ⟨k0,fun a b c ha hbB cU hh=>?_⟩
      have pP:vP x L a:=ha.to fun q hq=>k2 q hq
      have pN:vP x L c:=Gen.conj G (fun u fq=>(hu u fq).1) (hB b hbB) (fun u v fq hv hh'=>by obtain⟨q1,q2,_,_⟩:=kJ h hc (hu u fq).1 (hB b hbB);rw[G.cancel_l (hB b hbB) hv q1 (hh'.trans q2.symm)];exact k3 b hbB u fq) ((pL a).1 pP) cU hh
      exact pN.mono fun q hq=>r5 q hq
     ·exact .inl k0
    ·simp only
     rcases r7 with⟨rfl,rfl,_⟩|⟨rfl,k⟩
     ·simp
     ·simp;omega) 100000 (x,b,jf) (by have:=zBF b;simp only[if_true];omega) ⟨b,jf,(· ∈M),rfl,e2,e3,fun a ha=>hM a ha,fun _ h=>h,fun a ha=>.x ha,.inl rfl⟩
 obtain⟨C,c1,c2⟩:=zDR h hc gZ hW;refine⟨L,C,?_,c2,hV,NCl.iff G hn (fun a ha=>.x (dD a ha)) fun a b c ha hb cU hh=>gy a b c ha hb cU hh⟩;unfold zYX zWY;rw[yH,bs,bs,e1,bs,r1,bs,c1,bs]
end
noncomputable def cjs (x:SPr) (u B:Mx) (i:Nat):Mx:=((B.take i).map fun b=>u.map fun a=>cjf x a b).flatten
theorem zNg{B:Mx}(hi:i<B.length:=by omega):cjs x u B (i+1)=cjs x u B i++u.map (fun a=>cjf x a (B.getD i [])):=by rw[cjs,Lg,K6,Uk,J3 hi,J2,J3 hi];simp[cjs]
theorem zLf{x:SPr}{u B:Mx}:∀i,i<=B.length->(cjs x u B i).length=i*u.length
 |0,_=>by simp[cjs]
 |i+1,hi=>by rw[zNg,J5,zLf i (by omega),Jf,K8]
theorem zLg{B:Mx}:c∈cjs x u B B.length↔ ∃b∈B,∃a∈u,cjf x a b=c:=by
 simp only[cjs,Lm,Jaz,Jc];constructor
 ·rintro⟨l,⟨b,hb,rfl⟩,hc⟩
  obtain⟨a,ha,rfl⟩:=Jc.1 hc;exact⟨b,hb,a,ha,rfl⟩
 ·rintro⟨b,hb,a,ha,rfl⟩
  exact⟨_,⟨b,hb,rfl⟩,Jc.2 ⟨a,ha,rfl⟩⟩
section
variable {x:SPr} (h:Pres x) (hc:xC (suf x 0))
 include h hc
theorem zNh{B:Mx}(hu:∀a∈u,V (suf x 0) a)(gT:u.length<=14)(hB:∀a∈B,V (suf x 0) a)(pm:B.length<=50):
  zG (zSU x B u) (u,0)=jd (u++cjs x u B B.length):=by
 have gf:∀i,i<=B.length->(cjs x u B i).length<=700:=fun i hi=>by rw[zLf i hi];exact Lu (Jq (Lu hi pm) gT) (by decide)
 have l:=zN (body:=zSU x B u) (r:=u++cjs x u B B.length) (fun i=>(u++cjs x u B i,(i:Int))) B.length (fun i hi=>by
  have hm:B.getD i []∈B:=by rw[J2,J3 hi];exact Js hi
  have gy:=gf i (by omega);have inner:=zN (body:=zXd x B u (u++cjs x u B i,(i:Int))) (r:=u++cjs x u B (i+1)) (fun j=>(u++cjs x u B i++(u.take j).map (fun a=>cjf x a (B.getD i [])),(j:Int))) u.length (fun j hj=>by
   have mG:u.getD j []∈u:=by rw[J2,J3 hj];exact Js hj
   have eu:u.getD j []=u[j]:=by rw[J2,J3 hj];rfl
   unfold zXd;simp only
   rw[show decide ((j:Int)<(u.length:Int))=jf from ji,zH,yA [] hj,bs,yA [] hi,bs,(kJ h hc (hu _ mG) (hB _ hm)).2.2.2,bs,zV (by simp only[J5,Jf,Kd,Jb];omega),bs,zB,bs];rw[Lg,K6,J3 hj,eu,<-Jg];rfl) (by
   unfold zXd;simp only
   rw[show decide ((u.length:Int)<(u.length:Int))=jg from jh (by omega),zJ,Lm,zNg hi,<-Jg])
  rw[Kc,La,Jh,show((0:Nat):Int)=0 from rfl]at inner;unfold zSU;simp only
  rw[show decide ((i:Int)<(B.length:Int))=jf from ji,zH,inner,bs,zB,bs];rfl) (by
  unfold zSU;simp only
  rw[show decide ((B.length:Int)<(B.length:Int))=jg from jh (by omega),zJ])
 rw[show cjs x u B 0=[]from rfl,Jh,show((0:Nat):Int)=0 from rfl]at l;exact l
theorem zNi{B:Mx}(hB:∀a∈B,V (suf x 0) a)(pm:B.length<=50){L0:Vec->Prop}(h0:∀a,L0 a->V (suf x 0) a)(n0:∀a,L0 a->NCl (V (suf x 0)) (mul (suf x 0)) (zeros (suf x 0).length) (· ∈M) (· ∈B) a)(m0:∀a∈M,vP x L0 a)
  {C0:Nat->Option Vec}(hC0:zAt x L0 C0):∃(L:Vec->Prop)(C:Nat->Option Vec),f_G x (xZ C0 0 x.zA.length) B=jd (xZ C 0 x.zA.length)/\zAt x L C/\(∀a,L a->V (suf x 0) a)/\
   ∀a,vP x L a↔NCl (V (suf x 0)) (mul (suf x 0)) (zeros (suf x 0).length) (· ∈M) (· ∈B) a:=by
 have h9:=h.os.1;have G:=g0 h hc;obtain⟨r,r1,L,C,rfl,r2⟩:=vX (body:=zYT x B)
  (Q:=fun r=> ∃(L:Vec->Prop)(C:Nat->Option Vec),r=xZ C 0 x.zA.length/\zAt x L C/\(∀a,L a->V (suf x 0) a)/\ ∀a,vP x L a↔NCl (V (suf x 0)) (mul (suf x 0)) (zeros (suf x 0).length) (· ∈M) (· ∈B) a)
  (fun s=> ∃(L:Vec->Prop)(C:Nat->Option Vec),s=xZ C 0 x.zA.length/\zAt x L C/\(∀a,L a->V (suf x 0) a)/\(∀a,L a->NCl (V (suf x 0)) (mul (suf x 0)) (zeros (suf x 0).length) (· ∈M) (· ∈B) a)/\ ∀a∈M,vP x L a)
  (fun s=>14-s.length) (fun s hs=>by
   obtain⟨L,C,rfl,hC,hV,hn,hm⟩:=hs;have pL:=zEV h hc hV hC;have gT:=zC9 C 0 x.zA.length;have hu:∀a∈xZ C 0 x.zA.length,V (suf x 0) a/\vP x L a:=fun a ha=>by have:=(pL a).2 (.x ha);exact⟨this.in G hV,this⟩
   have pW:∀a,vP x L a->NCl (V (suf x 0)) (mul (suf x 0)) (zeros (suf x 0).length) (· ∈M) (· ∈B) a:=fun a ha=>by
    induction ha with
    |one=>exact .one
    |x hx=>exact hn _ hx
    |m _ _ i1 i2=>exact .m i1 i2
    |i _ hb hh i1=>exact .i i1 hb hh
   obtain⟨N,hN⟩:∃N,N=xZ C 0 x.zA.length++cjs x (xZ C 0 x.zA.length) B B.length:=⟨_,rfl⟩;have tq:∀a∈N,V (suf x 0) a:=fun a ha=>by
    rw[hN]at ha;rcases Ja.1 ha with ha|ha
    ·exact(hu a ha).1
    ·obtain⟨b,hb,c,dy,rfl⟩:=zLg.1 ha
     exact(kJ h hc (hu c dy).1 (hB b hb)).1
   have hNn:∀a∈N,NCl (V (suf x 0)) (mul (suf x 0)) (zeros (suf x 0).length) (· ∈M) (· ∈B) a:=fun a ha=>by
    rw[hN]at ha;rcases Ja.1 ha with ha|ha
    ·exact pW a (hu a ha).2
    ·obtain⟨b,hb,c,dy,rfl⟩:=zLg.1 ha
     obtain⟨q1,q2,_,_⟩:=kJ h hc (hu c dy).1 (hB b hb);exact .c (pW c (hu c dy).2) hb q1 q2
   have hNl:N.length<=1000:=by rw[hN,J5,zLf B.length (Je _)];have:=Jq pm (Lu gT h9);omega
   obtain⟨D,d1,d2⟩:=zDS h hc tq hNl;have er:∀a,vP x L a->vP x (· ∈N) a:=fun a ha=>((pL a).1 ha).mono fun q hq=>by rw[hN];exact Ja.2 (.inl hq)
   have fd:=(Pc.some_len (C:=C) (D:=D) (K7 0 x.zA.length) (fun k _ hk=>Pc.Can.sub (zBS h hc) hC d2 er hk)).1;have hdl:=zC9 D 0 x.zA.length;unfold zYT;rw[zF3 (by omega) (fun i hi=>by have:=(hu ((xZ C 0 x.zA.length).getD i []) (by rw[J2,J3 hi];exact Js hi)).1;rw[zBs h hc this];omega),bs,zNh h hc (fun a ha=>(hu a ha).1) (by omega) hB pm,bs,<-hN,d1,bs]
   by_cases hl:(xZ C 0 x.zA.length).length=(xZ D 0 x.zA.length).length
   ·right
    rw[show(((xZ D 0 x.zA.length).length:Int)==((xZ C 0 x.zA.length).length:Int))=jf from by simp[hl],zH];have gP:=zRh h hc (fun a ha=>tq a ha) hC d2 er hl;refine⟨_,rfl,(· ∈N),D,rfl,d2,fun a ha=>tq a ha,NCl.iff G (fun a ha=>hNn a ha) (fun a ha=>er a (hm a ha)) fun a b c ha hb cU hh=>?_⟩;refine Gen.conj G (fun u fq=>(hu u fq).1) (hB b hb) (fun u v fq hv hh'=>?_) ((pL a).1 ((gP a).2 ha)) cU hh;obtain⟨q1,q2,_,_⟩:=kJ h hc (hu u fq).1 (hB b hb);rw[G.cancel_l (hB b hb) hv q1 (hh'.trans q2.symm)];refine .x ?_;show _∈N;rw[hN];exact Ja.2 (.inr (zLg.2 ⟨b,hb,u,fq,rfl⟩))
   ·left
    rw[show(((xZ D 0 x.zA.length).length:Int)==((xZ C 0 x.zA.length).length:Int))=jg from by simp;omega,zJ];have hle':(xZ C 0 x.zA.length).length<=(xZ D 0 x.zA.length).length:=fd;exact⟨_,rfl,⟨(· ∈N),D,rfl,d2,fun a ha=>tq a ha,fun a ha=>hNn a ha,fun a ha=>er a (hm a ha)⟩,by omega⟩) 100 (xZ C0 0 x.zA.length) (by omega) ⟨L0,C0,rfl,hC0,h0,n0,m0⟩
 refine⟨L,C,?_,r2⟩;unfold f_G;rw[r1,bs]
end
section
variable {x:SPr} (h:Pres x) (hc:xC (suf x 0))
 include h hc
theorem yEc{b:Vec}(ha:V (suf x 0) a)(hb:V (suf x 0) b):∃w,V (suf x 0) w/\mul (suf x 0) (mul (suf x 0) b a) w=mul (suf x 0) a b/\zNL x a b=jd w/\zPG x a b=jd w:=by
 have G:=g0 h hc;have ok:=ok0 h hc;obtain⟨w,w1,w2,w3⟩:=zZT h hc ha hb;obtain⟨z,z1,z2,z3⟩:=zVr h hc ha hb;rw[G.cancel_l (yO ok hb ha) z1 w1 (z2.trans w2.symm)]at z3;exact⟨w,w1,w2,w3,z3⟩
 omit h hc in
noncomputable def cmf (x:SPr) (a b:Vec):Vec:=(zNL x a b).getD []
theorem zCA{b:Vec}(ha:V (suf x 0) a)(hb:V (suf x 0) b):V (suf x 0) (cmf x a b)/\mul (suf x 0) (mul (suf x 0) b a) (cmf x a b)=mul (suf x 0) a b/\zNL x a b=jd (cmf x a b)/\zPG x a b=jd (cmf x a b):=by
 obtain⟨w,w1,w2,w3,w4⟩:=yEc h hc ha hb;have:cmf x a b=w:=by rw[cmf,w3];rfl
 rw[this];exact⟨w1,w2,w3,w4⟩
 omit h hc in
noncomputable def cms (x:SPr) (u v:Mx) (i:Nat):Mx:=((u.take i).map fun a=>v.map fun b=>cmf x a b).flatten
 omit h hc in
theorem zIo{v:Mx}(hi:i<u.length:=by omega):cms x u v (i+1)=cms x u v i++v.map (fun b=>cmf x (u.getD i []) b):=by
  rw[cms,Lg,K6,Uk,J3 hi,J2,J3 hi];simp[cms]
 omit h hc in
theorem zLh{u v:Mx}:∀i,i<=u.length->(cms x u v i).length=i*v.length
  |0,_=>by simp[cms]
  |i+1,hi=>by rw[zIo,J5,zLh i (by omega),Jf,K8]
 omit h hc in
theorem zLi{v:Mx}:c∈cms x u v u.length↔ ∃a∈u,∃b∈v,cmf x a b=c:=by
  simp only[cms,Lm,Jaz,Jc];constructor
  · rintro⟨l,⟨b,hb,rfl⟩,hc⟩
    obtain⟨a,ha,rfl⟩:=Jc.1 hc;exact⟨b,hb,a,ha,rfl⟩
  · rintro⟨b,hb,a,ha,rfl⟩
    exact⟨_,⟨b,hb,rfl⟩,Jc.2 ⟨a,ha,rfl⟩⟩
theorem yEd{v:Mx}(hu:∀a∈u,V (suf x 0) a)(hv:∀a∈v,V (suf x 0) a):∀c∈cms x u v u.length,V (suf x 0) c:=fun c bw=>by obtain⟨a,ha,b,hb,rfl⟩:=zLi.1 bw;exact(zCA h hc (hu a ha) (hv b hb)).1
theorem zPi{v:Mx}(hu:∀a∈u,V (suf x 0) a)(gT:u.length<=14)(hv:∀a∈v,V (suf x 0) a)(fT:v.length<=14):
  zG (zSW x u v) ([],0)=jd (cms x u v u.length)/\zG (zSV x u v) ([],0)=jd (cms x u v u.length):=by
 have gf:∀i,i<=u.length->(cms x u v i).length<=196:=fun i hi=>by rw[zLh i hi];exact Lu (Jq (Lu hi gT) fT) (by decide)
 have um:∀i,i<u.length->V (suf x 0) (u.getD i []):=fun i hi=>hu _ (by rw[J2,J3 hi];exact Js hi)
 have vm:∀i,i<v.length->V (suf x 0) (v.getD i []):=fun i hi=>hv _ (by rw[J2,J3 hi];exact Js hi)
 have ev:∀j(hj:j<v.length),v.getD j []=v[j]:=fun j hj=>by rw[J2,J3 hj];rfl
 constructor
 ·have l:=zN (body:=zSW x u v) (r:=cms x u v u.length) (fun i=>(cms x u v i,(i:Int))) u.length (fun i hi=>by
   have gy:=gf i (by omega);have inner:=zN (body:=zXm x v (u.getD i [])) (r:=cms x u v (i+1)) (fun j=>(cms x u v i++(v.take j).map (fun b=>cmf x (u.getD i []) b),(j:Int))) v.length (fun j hj=>by
    unfold zXm;simp only
    rw[show decide ((j:Int)<(v.length:Int))=jf from ji,zH,yA [] hj,bs,(zCA h hc (um i hi) (vm j hj)).2.2.1,bs,zV (by simp only[J5,Jf,Kd,Jb];omega),bs,zB,bs];rw[Lg,K6,J3 hj,ev j hj,<-Jg];rfl) (by
    unfold zXm;simp only
    rw[show decide ((v.length:Int)<(v.length:Int))=jg from jh (by omega),zJ,Lm,zIo hi])
   rw[Kc,La,Jh,show((0:Nat):Int)=0 from rfl]at inner;unfold zSW;simp only
   rw[show decide ((i:Int)<(u.length:Int))=jf from ji,zH,yA [] hi,bs,inner,bs,zB,bs];rfl) (by
   unfold zSW;simp only
   rw[show decide ((u.length:Int)<(u.length:Int))=jg from jh (by omega),zJ])
  exact l
 ·have l:=zN (body:=zSV x u v) (r:=cms x u v u.length) (fun i=>(cms x u v i,(i:Int))) u.length (fun i hi=>by
   have gy:=gf i (by omega);have inner:=zN (body:=zXe x u v (cms x u v i,(i:Int))) (r:=cms x u v (i+1)) (fun j=>(cms x u v i++(v.take j).map (fun b=>cmf x (u.getD i []) b),(j:Int))) v.length (fun j hj=>by
    unfold zXe;simp only
    rw[show decide ((j:Int)<(v.length:Int))=jf from ji,zH,yA [] hi,bs,yA [] hj,bs,(zCA h hc (um i hi) (vm j hj)).2.2.2,bs,zV (by simp only[J5,Jf,Kd,Jb];omega),bs,zB,bs];rw[Lg,K6,J3 hj,ev j hj,<-Jg];rfl) (by
    unfold zXe;simp only
    rw[show decide ((v.length:Int)<(v.length:Int))=jg from jh (by omega),zJ,Lm,zIo hi])
   rw[Kc,La,Jh,show((0:Nat):Int)=0 from rfl]at inner;unfold zSV;simp only
   rw[show decide ((i:Int)<(u.length:Int))=jf from ji,zH,inner,bs,zB,bs];rfl) (by
   unfold zSV;simp only
   rw[show decide ((u.length:Int)<(u.length:Int))=jg from jh (by omega),zJ])
  exact l
end
theorem zPj(hk:k<=1000000:=by omega):zXl (k:Int)=jd []:=by
 unfold zXl;rw[jh (by omega),zJ,zB,bs,zB,bs]
 by_cases h:k=0
 ·subst h;rfl
 ·rw[ji,zH]
  rw[show(((k:Nat):Int)-(0-0))=(k:Int)from by omega];unfold wJ;rw[if_pos (by simp only[Jt];omega),bs];unfold zR;rw[if_pos ⟨by omega,by omega,by omega⟩,bs];simp
theorem zLj{v:Mx}(hu:u.length<=1000:=by omega)(hv:v.length<=1000:=by omega):zYV [u,v]=jd (u++v):=by
 unfold zYV;have l1:=zN (body:=zNN [u,v]) (r:=(((u.length+v.length:Nat)):Int)) (fun i=>((match i with|0=>0|1=>(u.length:Int)|_=>((u.length+v.length:Nat):Int)),(i:Int))) 2 (fun i hi=>by
  unfold zNN
  match i,hi with
  |0,_=>
   simp only
   rw[show decide (((0:Nat):Int)<(([u,v]:List Mx).length:Int))=jf from rfl,zH,show ixO [u,v] ((0:Nat):Int)=jd u from rfl,bs,zB,bs,jh (by omega),zJ,zB,bs];simp
  |1,_=>
   simp only
   rw[show decide (((1:Nat):Int)<(([u,v]:List Mx).length:Int))=jf from rfl,zH,show ixO [u,v] ((1:Nat):Int)=jd v from rfl,bs,zB,bs,jh (by omega),zJ,zB,bs];simp) (by
  unfold zNN;simp only
  rw[show decide (((2:Nat):Int)<(([u,v]:List Mx).length:Int))=jg from rfl,zJ])
 have l2:=zN (body:=zNO [u,v]) (r:=u++v) (fun i=>((match i with|0=>[] |1=>u|_=>u++v),(i:Int))) 2 (fun i hi=>by
  unfold zNO
  match i,hi with
  |0,_=>
   simp only
   rw[show decide (((0:Nat):Int)<(([u,v]:List Mx).length:Int))=jf from rfl,zH,show ixO [u,v] ((0:Nat):Int)=jd u from rfl,bs,zV (by simp only[Jt];omega),bs,zB,bs];simp
  |1,_=>
   simp only
   rw[show decide (((1:Nat):Int)<(([u,v]:List Mx).length:Int))=jf from rfl,zH,show ixO [u,v] ((1:Nat):Int)=jd v from rfl,bs,zV,bs,zB,bs];simp) (by
  unfold zNO;simp only
  rw[show decide (((2:Nat):Int)<(([u,v]:List Mx).length:Int))=jg from rfl,zJ])
 simp only at l1 l2;rw[show((0:Nat):Int)=0 from rfl]at l1 l2;rw[l1,bs,zPj,bs,l2,bs]
section
variable {x:SPr} (h:Pres x) (hc:xC (suf x 0))
 include h hc
theorem zGs{v:Mx}(hu:∀a∈u,V (suf x 0) a)(gT:u.length<=14)(hv:∀a∈v,V (suf x 0) a)(fT:v.length<=14):
  ∃(L:Vec->Prop)(C:Nat->Option Vec),f_X x u v=jd (xZ C 0 x.zA.length)/\f_W x u v=jd (xZ C 0 x.zA.length)/\zAt x L C/\(∀a,L a->V (suf x 0) a)/\
   ∀a,vP x L a↔NCl (V (suf x 0)) (mul (suf x 0)) (zeros (suf x 0).length) (· ∈cms x u v u.length) (· ∈u++v) a:=by
 obtain⟨li,ls⟩:=zPi h hc hu gT hv fT;have hV:=yEd h hc hu hv;have gy:(cms x u v u.length).length<=196:=by rw[zLh u.length (Je _)];exact Lu (Jq gT fT) (by decide)
 have hB:∀a∈u++v,V (suf x 0) a:=fun a ha=>(Ja.1 ha).elim (hu a) (hv a)
 have pm:(u++v).length<=50:=by rw[J5];omega
 obtain⟨C0,c1,c2⟩:=zDS h hc hV (by omega);obtain⟨L,C,s1,s2,s3,s4⟩:=zNi h hc (M:=cms x u v u.length) hB pm (L0:=(· ∈cms x u v u.length)) (fun a ha=>hV a ha) (fun a ha=>.x ha) (fun a ha=>.x ha) c2;obtain⟨L',C',i1,i2,i3,i4⟩:=zLe h hc hV (by omega) hB (by omega);have e:=zIn h hc s2 i2 fun a=>(s4 a).trans (i4 a).symm
 have h9:=h.os.1;refine⟨L,C,?_,?_,s2,s3,s4⟩
 ·unfold f_X
  rw[ls,bs,c1,bs,zF3 (by omega) (fun i hi=>by have:=hu (u.getD i []) (by rw[J2,J3 hi];exact Js hi);rw[zBs h hc this];omega),bs,zV,bs,s1,bs]
 ·unfold f_W
  rw[li,bs,zLj,bs,i1,bs,e]
end
noncomputable def gns (x:SPr):Mx:=(Jd x.zA.length).map (wZ x.zA.length)
theorem zNj(h:Pres x):zXk x=jd (gns x):=by
 have h9:=h.os.1;have l:=zN (body:=zNM x) (r:=gns x) (fun i=>((Jd i).map (wZ x.zA.length),(i:Int))) x.zA.length (fun i hi=>by
  unfold zNM;simp only
  rw[show decide ((i:Int)<(x.zA.length:Int))=jf from ji,zH,qE hi,bs,zV (by simp only[Jf,Le,Jb];omega),bs,zB,bs,Kz,K6];rfl) (by
  unfold zNM;simp only
  rw[show decide ((x.zA.length:Int)<(x.zA.length:Int))=jg from jh (by omega),zJ];rfl)
 unfold zXk yBY;rw[Jc0,La,show((0:Nat):Int)=0 from rfl]at l;rw[l,bs,bs]
section
variable {x:SPr} (h:Pres x) (hc:xC (suf x 0))
 include h hc
theorem zNk{l0:Mx}(hu:∀a∈u,V (suf x 0) a)(gT:u.length<=14)(iz:l0.length<=100)(q0:0<=q)(q1:q<=1000):
  zG (zJT u x q) (l0,0)=jd (l0++u.map fun a=>pw (mul (suf x 0)) (zeros (suf x 0).length) a q.toNat)/\zG (zJR x u q) (l0,0)=jd (l0++u.map fun a=>pw (mul (suf x 0)) (zeros (suf x 0).length) a q.toNat):=by
 have um:∀i,i<u.length->V (suf x 0) (u.getD i []):=fun i hi=>hu _ (by rw[J2,J3 hi];exact Js hi)
 have eu:∀j(hj:j<u.length),u.getD j []=u[j]:=fun j hj=>by rw[J2,J3 hj];rfl
 constructor
 ·have l:=zN (body:=zJT u x q) (r:=l0++u.map fun a=>pw (mul (suf x 0)) (zeros (suf x 0).length) a q.toNat) (fun i=>(l0++(u.take i).map (fun a=>pw (mul (suf x 0)) (zeros (suf x 0).length) a q.toNat),(i:Int))) u.length (fun i hi=>by
   unfold zJT;simp only
   rw[show decide ((i:Int)<(u.length:Int))=jf from ji,zH,yA [] hi,bs,zYn h hc (um i hi) q0 q1,bs,zV (by simp only[J5,Jf,Kd,Jb];omega),bs,zB,bs];rw[Lg,K6,J3 hi,eu i hi,<-Jg];rfl) (by
   unfold zJT;simp only
   rw[show decide ((u.length:Int)<(u.length:Int))=jg from jh (by omega),zJ,Lm])
  rw[Kc,La,Jh,show((0:Nat):Int)=0 from rfl]at l;exact l
 ·have l:=zN (body:=zJR x u q) (r:=l0++u.map fun a=>pw (mul (suf x 0)) (zeros (suf x 0).length) a q.toNat) (fun i=>(l0++(u.take i).map (fun a=>pw (mul (suf x 0)) (zeros (suf x 0).length) a q.toNat),(i:Int))) u.length (fun i hi=>by
   unfold zJR;simp only
   rw[show decide ((i:Int)<(u.length:Int))=jf from ji,zH,yA [] hi,bs,zVq h hc (um i hi) q0 q1,bs,zV (by simp only[J5,Jf,Kd,Jb];omega),bs,zB,bs];rw[Lg,K6,J3 hi,eu i hi,<-Jg];rfl) (by
   unfold zJR;simp only
   rw[show decide ((u.length:Int)<(u.length:Int))=jg from jh (by omega),zJ,Lm])
  rw[Kc,La,Jh,show((0:Nat):Int)=0 from rfl]at l;exact l
end
end Go.Pl
