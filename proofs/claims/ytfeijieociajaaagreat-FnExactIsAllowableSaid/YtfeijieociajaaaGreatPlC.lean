/- The program's IsAllowable returns what the reference's returns,for all arguments;no conditions. -/
import Derived.Test.YtfeijieociajaaaGreatPlB
import Derived.Test.YtfeijieociajaaaGreatWF
import Derived.Test.YtfeijieociajaaaGreatPlA
open List renaming replicate→J1,getD_eq_getElem?_getD→J2,getElem?_eq_getElem→J3,length_append→J5,length_cons→J7,mem_cons→J9,mem_append→Ja,length_singleton→Jb,mem_map→Jc,range→Jd,length_map→Jf,append_assoc→Jg,append_nil→Jh,getElem?_append_right→Jk,length_replicate→Jl,getElem_mem→Jp,take_left'→Js,length_nil→Jt,map_cons→Ju,replicate_succ→Jv,getElem?_map→Jw,take_of_length_le→Jx,getElem?_append_left→Jy,nil_append→K0,drop_left'→K1,getElem?_replicate→K4,take_succ_eq_append_getElem→K5,map_append→K6,range'→K7,cons_append→K9,take_zero→Kd,length_take→Ke,reverse_reverse→Ki,all_eq_true→Kj,length_drop→Kl,flatMap_cons→Kr,range_eq_range'→Kw,mem_iff_getElem→Ld,map_nil→Le,set_cons_succ→Lg,length_range→Lh,getElem?_eq_none→Li,mem_range→Lj,mem_flatMap→Ll,take_length→Ln,take_add_one→Lt,replicate_succ'→Lw,replicate_zero→H0,eq_of_mem_replicate→H2,length_set→Hf,filterMap_cons→Hk,drop_eq_nil_of_le→Hl,range'_succ→Ho,mem_append_right→Hp,drop_eq_getElem_cons→Hq,flatten_cons→Hr,reverse_cons→G8,not_mem_nil→G9,getD_cons_zero→Gm,ext_getElem→Gs,mem_append_left→U3,flatMap_append→U4,getD→U7,drop_zero→Uf,foldl_cons→Ug,drop_of_length_le→Uo,flatten_nil→Uz,flatMap_nil→qd9,length→Qf,range'_1_concat→Ql,length_range'→Ja0,mem_of_mem_head?→Ja5,findSome?_cons→Jae,mem_filterMap→Jai,getElem?_set_self→Jaj,map_map→Jaz,getElem?_set_ne→Jb0,mem_range'→Jb6,head?_cons→Jb8,flatten_append→Jba
open Int renaming toNat_natCast->J8,emod_eq_of_lt->Jq,mul_emod->Jz,emod_emod->K3,add_emod->Ka,emod_lt_of_pos->Kh,emod_nonneg->Kk,mul_one->L8,add_zero->L9,mul_zero->Lo,tmod_eq_emod_of_nonneg->Hg,natCast_add->Hn,emod_add_emod->G4,toNat_zero->Gt,mul_comm->Gy,natCast_mul->Up,mul_le_mul_of_nonneg_left->Q8,sub_emod->Qg,mul_add->Jak,emod_self->Jap
open Nat renaming le_refl->Je,zero_add->Ji,lt_or_ge->Jo,mul_le_mul->Jr,succ_mul->K8,mul_le_mul_right->Kc,sub_self->Ko,zero_le->Lf,div_add_mod->Lx,mul_one->Lz,add_sub_cancel_left->H4,div_lt_iff_lt_mul->H6,le_trans->H8,mod_lt->Hu,add_mul->Hv,lt_trichotomy->G1,zero_mul->Uy,mul_add->Qt,lt_irrefl->Jam,eq_zero_or_pos->Jav,add_sub_cancel->Jaw
open Bool renaming not_true->Kb,not_false->Ky,false_eq_true->Hs
open Option renaming map_some->He,some->Hm,bind->Gz,isSome_none->Ue,map_none->Jac
open Prod renaming mk->Jah
open Option renaming some->jf,none->jg
open Bool renaming true->jh,false->ji
namespace Go.Pl
open Go Go.Ab Go.Wk Go.Pc
variable {j k i N D l d a:Nat}{c y1 y2 y:Vec}{e q:Int}{t1 t2:List (Nat×List Nat)}{x:SPr}{u A M Q:Mx}{m:zF}{r:zCA}{w':List Nat}{out o1:List zJ}{C:Nat->Option Vec}
theorem yAw:∀(a o:Nat)(b:Int)(c:Vec),nw o (zeros a++b::c)=J1 b.toNat (o+a)++nw (o+a+1) c
 |0,o,b,c=>rfl
 |a+1,o,b,c=>by rw[show zeros (a+1)++b::c=0::(zeros a++b::c)from rfl];simp only[nw,Gt,H0,K0];rw[yAw a (o+1) b c,show o+1+a=o+(a+1)from by omega]
theorem zKZ{os v:List Int}(hv:Exp os v j)(hk:k<=j):Exp os v k:=⟨hv.1,fun i hi=>hv.2 i (by omega)⟩
section
variable {x:SPr} (h:Pres x)
 include h
theorem yAx:∀(a k:Nat){b:Int}{c:Vec},k+a<x.zA.length->0<=b->b<at0 x.zA (k+a)->V (suf x (k+a+1)) c->V (suf x k) (zeros a++b::c)
 |0,k,b,c,ha,h0,h1,hc=>by rw[zY (x:=x)];exact⟨⟨h0,h1⟩,hc⟩
 |a+1,k,b,c,ha,h0,h1,hc=>by
  have:=(h.os.2 k (by omega)).pos;rw[zY (x:=x)];refine⟨⟨Int.le_refl 0,?_⟩,?_⟩
  ·show(0:Int)<at0 x.zA k
   omega
  ·exact yAx a (k+1) (by omega) h0 (by grind) (by grind)
end
section
variable {D:Nat}{x:SPr}{m:zF}{T:Mx} (h:Pres x) (hE:ExB x.zA.length D x m T) (hT:∀i,i<T.length->Row m.Prime D (T.getD i []))
 include h hE hT
variable {k:Nat} (hk:k<x.zA.length) (hc:xC (suf (exx D x m T) (k+1)))
 include hk hc
theorem zPb(h1:k+1<=j)(h2:j<x.zA.length){b:Int}(h0:0<=b)(hb:b<at0 x.zA j)(eL:V (suf x (j+1)) c):V (suf x (k+1)) (zeros (j-(k+1))++b::c)/\nw (k+1) (zeros (j-(k+1))++b::c)=J1 b.toNat j++nw (j+1) c/\
  fo (exx D x m T) (k+1) (zeros ((exx D x m T).zA.length-(k+1))) (J1 b.toNat j++nw (j+1) c)=(zeros (j-(k+1))++b::c)++zeros D:=by
 have e:k+1+(j-(k+1))=j:=by omega
 have hv:V (suf x (k+1)) (zeros (j-(k+1))++b::c):=by grind[yAx]
 have hn:nw (k+1) (zeros (j-(k+1))++b::c)=J1 b.toNat j++nw (j+1) c:=by rw[yAw,e]
 refine⟨hv,hn,?_⟩;rw[<-hn];exact zIh h hE hT _ (k+1) (by omega:k+1+(x.zA.length-(k+1))=x.zA.length) hc _ hv
theorem zRj{e:Vec}(he:V (suf (exx D x m T) (k+1)) e):mul (suf (exx D x m T) (k+1)) (zeros ((exx D x m T).zA.length-(k+1))) e=e:=by
 have G:=(zBQ _ (uH h hE hT (k:=k+1) (by omega)) hc).toMon;have:=G.onel he
 grind[yC]
theorem zRk(h1:k+1<=j)(h2:j<x.zA.length):fo (exx D x m T) (k+1) (zeros ((exx D x m T).zA.length-(k+1))) [j]=xH ((exx D x m T).zA.length-(k+1)) (j-(k+1))/\sig (suf (exx D x m T) (k+1)) (lvl (exx D x m T) k) (xH ((exx D x m T).zA.length-(k+1)) (j-(k+1)))=(lvl (exx D x m T) k).cs.getD (j-(k+1)) []:=by
 have ho:=(h.os.2 j h2).pos;have hz:V (suf x (j+1)) (zeros (x.zA.length-(j+1))):=by have:=wD (h.okAt (k:=j+1) (by omega));grind[yC]
 obtain⟨v1,v2,v3⟩:=zPb h hE hT hk hc h1 h2 (b:=1) (by omega) (by omega) hz;have hn:nw (j+1) (zeros (x.zA.length-(j+1)))=[]:=zC8 _ _;rw[hn]at v2 v3;have hf:fo (exx D x m T) (k+1) (zeros ((exx D x m T).zA.length-(k+1))) [j]=xH ((exx D x m T).zA.length-(k+1)) (j-(k+1)):=zRj h hE hT hk hc (zCC h hE hT h1 h2);refine⟨hf,?_⟩;rw[<-hf];have v3':fo (exx D x m T) (k+1) (zeros ((exx D x m T).zA.length-(k+1))) [j]=_:=v3
 grind[zET,zRj,zNb]
theorem zVy(hL:LC x k)(h1:k+1<=j)(h2:j<x.zA.length)(k1:tT x k (nw 0 (x.zQ.getD j [])++[k]) t1 y1)(k2:tT x k (J1 (yD x j-1) j++k::nw 0 (lcj x k j)) t2 y2):
  y1=y2/\(tv m.Prime D m T ((j,[k])::t1)=tv m.Prime D m T ((base x.zA.length k+(j-(k+1)),[])::t2)↔c1E (exx D x m T) k j):=by
 have hp:=hE.m.p.pos;have ho:=(h.os.2 k hk).pos;have hj:=(h.os.2 j h2).pos;have pZ:=zKZ (sS h h2) (show k<=j by omega);have cr:V (suf x (k+1)) ((x.zQ.getD j []).drop (k+1)):=jC pZ hk;have m6:=tA h pZ hk;have ar:=zBG h hE hT h2;have pW:=zDn h hE hT (k:=k+1) (by omega) cr (yX (p:=m.Prime) (D:=D));obtain⟨c1,c2,c3,c4⟩:=csE h hE hT hk hc h1 h2;have cJ:=zDn h hE hT (k:=k+1) (by omega) c1 (yX (p:=m.Prime) (D:=D));have cV:=zNb h hE hT hk h1 h2;have eF:=zD4 h hE hT (show k<j by omega) h2;have mr:V (suf x (j+1)) (zeros (x.zA.length-(j+1))):=by have:=wD (h.okAt (k:=j+1) (by omega));rwa [yC]at this
 obtain⟨u1,u2,u3⟩:=zPb h hE hT hk hc h1 h2 (b:=at0 x.zA j-1) (by omega) (by omega) mr;rw[zC8,Jh,show(at0 x.zA j-1).toNat=yD x j-1 from by show _=(at0 x.zA j).toNat-1;omega]at u2 u3;have gz:=uH h hE hT (k:=k+1) (by omega);have G:=(zBQ _ gz hc).toMon;have v1:=zEa h hE hT hk hc m6.2 (z:=[]);rw[m6.1,zIh h hE hT _ (k+1) (by omega:k+1+(x.zA.length-(k+1))=x.zA.length) hc _ cr,<-m6.1]at v1;have hr:∀a∈J1 (yD x j-1) j,k+1<=a/\a<x.zA.length:=fun a ha=>by have:=H2 ha;omega
 have v2:=zEa h hE hT hk hc hr (z:=nw 0 (lcj x k j));have tc:∀q(e:Vec),(J1 q j).foldl (fun acc j=>mul (suf (exx D x m T) (k+1)) acc ((lvl (exx D x m T) k).cs.getD (j-(k+1)) [])) e=iter q (fun v=>mul (suf (exx D x m T) (k+1)) v ((lvl (exx D x m T) k).cs.getD (j-(k+1)) [])) e:=by
  intro q
  induction q with
  |zero=>intro e;rfl
  |succ q ih=>intro e;rw[Jv,Ug,ih];rfl
 have hpq:sig (suf (exx D x m T) (k+1)) (lvl (exx D x m T) k) (fo (exx D x m T) (k+1) (zeros ((exx D x m T).zA.length-(k+1))) (J1 (yD x j-1) j))=pw (mul (suf (exx D x m T) (k+1))) (zeros (suf (exx D x m T) (k+1)).length) ((lvl (exx D x m T) k).cs.getD (j-(k+1)) []) (yD x j-1):=by rw[u3,zET h hE hT hk u1,u2,tc,yC];rfl
 have ij:V (suf (exx D x m T) (k+1)) (pw (mul (suf (exx D x m T) (k+1))) (zeros (suf (exx D x m T) (k+1)).length) ((lvl (exx D x m T) k).cs.getD (j-(k+1)) []) (yD x j-1)):=wV G cV _;rw[hpq,zIi h hE hT hk hc (by omega) _ _ c4,zIj h hE hT hk hc c4 ij,c3]at v2;have e1:adK m.Prime D (x.zA.length-(k+1)) (sig (suf (exx D x m T) (k+1)) (lvl (exx D x m T) k) ((x.zQ.getD j []).drop (k+1)++zeros D)) (xL m.Prime D (T.getD j []) (wM m.Prime D m.zM [k] (idM D)))=sig (suf (exx D x m T) (k+1)) (lvl (exx D x m T) k) (((exx D x m T).zQ.getD j []).drop (k+1)):=by rw[zKY h hE hT hk hk,zDW h hE hT (by omega) h2,<-zId h hE hT hk pW ar,jN h hE hT (by omega) cr,uA ar]
 have e2:adK m.Prime D (x.zA.length-(k+1)) (mul (suf (exx D x m T) (k+1)) (pw (mul (suf (exx D x m T) (k+1))) (zeros (suf (exx D x m T) (k+1)).length) ((lvl (exx D x m T) k).cs.getD (j-(k+1)) []) (yD x j-1)) ((lcj x k j).drop (k+1)++zeros D)) (xL m.Prime D (T.getD (base x.zA.length k+(j-(k+1))) []) (wM m.Prime D m.zM [] (idM D)))=pw (mul (suf (exx D x m T) (k+1))) (zeros (suf (exx D x m T) (k+1)).length) ((lvl (exx D x m T) k).cs.getD (j-(k+1)) []) (at0 (exx D x m T).zA j).toNat:=by
  rw[show wM m.Prime D m.zM [] (idM D)=idM D from rfl,sZ eF,<-zMX h hE hT hk hc cJ eF ij,<-c2,tF h hE hT h2,show(at0 x.zA j).toNat=(yD x j-1)+1 from by show _=(at0 x.zA j).toNat-1+1;omega]
  conv=>rhs;rw[pw,xR]
  rfl
 have fE:V (suf (exx D x m T) (k+1)) (((exx D x m T).zQ.getD j []).drop (k+1)):=by rw[zDW h hE hT (by omega) h2];exact zDn h hE hT (by omega) cr ar
 obtain⟨hy,this⟩:=zGL h hE hT hk hc k1 k2 (r1:=j) (r2:=base x.zA.length k+(j-(k+1))) (s1:=[k]) (s2:=[]) (zAx h hE hT hk pW) (yO gz ij cJ) v1 v2 (by rw[e1,e2,zDY h hE hT hk fE,zIc h hE hT hk (by omega) h2,yAr h hE hT (by omega) cV,zJH h hE hT hk h1 h2,tF h hE hT h2];exact(hL.c1 j h1 h2).symm)
 rw[e1,e2]at this;refine⟨hy,?_⟩;rw[this];exact eq_comm
theorem zVz(hL:LC x k)(h1:k+1<=i)(gI:i<j)(h2:j<x.zA.length)(k1:tT x k (i::(nw 0 (lcj x i j)++[k])) t1 y1)(k2:tT x k (j::k::nw 0 (lcj x k i)) t2 y2):
  y1=y2/\(tv m.Prime D m T ((base x.zA.length i+(j-(i+1)),[k])::t1)=tv m.Prime D m T ((base x.zA.length k+(i-(k+1)),[])::t2)↔c2E (exx D x m T) k i j):=by
 have hp:=hE.m.p.pos;have ho:=(h.os.2 k hk).pos;have hi:=(h.os.2 i (by omega)).pos;have bt:=uE h gI h2;have tq:=zKZ bt (show k<=i by omega);have d5:V (suf x (k+1)) ((lcj x i j).drop (k+1)):=jC tq hk;have mQ:V (suf x (i+1)) ((lcj x i j).drop (i+1)):=jC bt;have hn:=tA h tq hk;have iq:=tA h bt (by omega);have av:=zD4 h hE hT gI h2;have dO:=zDn h hE hT (k:=k+1) (by omega) d5 (yX (p:=m.Prime) (D:=D));obtain⟨c1,c2,c3,c4⟩:=csE h hE hT hk hc h1 (show i<x.zA.length by omega);have cJ:=zDn h hE hT (k:=k+1) (by omega) c1 (yX (p:=m.Prime) (D:=D));have c7:=zNb h hE hT hk h1 (show i<x.zA.length by omega);have mn:=zNb h hE hT hk (show k+1<=j by omega) h2;have eF:=zD4 h hE hT (show k<i by omega) (show i<x.zA.length by omega);have gz:=uH h hE hT (k:=k+1) (by omega);obtain⟨u1,u2,u3⟩:=zPb h hE hT hk hc h1 (show i<x.zA.length by omega) (b:=1) (by omega) (by omega) mQ;rw[<-iq.1,show J1 (1:Int).toNat i++nw 0 (lcj x i j)=i::nw 0 (lcj x i j)from rfl]at u2 u3;have hr:∀a∈i::nw 0 (lcj x i j),k+1<=a/\a<x.zA.length:=fun a ha=>by
  simp only[J9]at ha;rcases ha with rfl|ha
  ·omega
  ·exact hn.2 a ha
 have v1:=zEa h hE hT hk hc hr (z:=[]);have es:sig (suf (exx D x m T) (k+1)) (lvl (exx D x m T) k) (fo (exx D x m T) (k+1) (zeros ((exx D x m T).zA.length-(k+1))) (i::nw 0 (lcj x i j)))=mul (suf (exx D x m T) (k+1)) ((lvl (exx D x m T) k).cs.getD (i-(k+1)) []) (sig (suf (exx D x m T) (k+1)) (lvl (exx D x m T) k) ((lcj x i j).drop (k+1)++zeros D)):=by rw[u3,zET h hE hT hk u1,u2,Ug,zRj h hE hT hk hc c7,zET h hE hT hk d5,<-hn.1];have:=zNc h hE hT hk hc hn.2 c7 (zOY h hE hT (k:=k+1) (by omega));rw[yBY h hE hT (by omega) c7]at this;exact this
 rw[es]at v1;have v2:=zEa h hE hT hk hc (v:=[j]) (fun a ha=>by simp only[List.mem_singleton]at ha;omega) (z:=nw 0 (lcj x k i));obtain⟨g1,g2⟩:=zRk h hE hT hk hc (show k+1<=j by omega) h2;rw[g1,g2,zIi h hE hT hk hc (by omega) _ _ c4,zIj h hE hT hk hc c4 mn,c3]at v2;have p9:=zAx h hE hT hk dO;have fu:((((exx D x m T).zG.getD i []).getD (j-(i+1)) []).drop (k+1))=adK m.Prime D (x.zA.length-(k+1)) ((lcj x i j).drop (k+1)++zeros D) (T.getD (base x.zA.length i+(j-(i+1))) []):=by rw[zFO h hE hT (by omega) gI h2,jN h hE hT (by omega) d5,uA av]
 have e1:adK m.Prime D (x.zA.length-(k+1)) (mul (suf (exx D x m T) (k+1)) ((lvl (exx D x m T) k).cs.getD (i-(k+1)) []) (sig (suf (exx D x m T) (k+1)) (lvl (exx D x m T) k) ((lcj x i j).drop (k+1)++zeros D))) (xL m.Prime D (T.getD (base x.zA.length i+(j-(i+1))) []) (wM m.Prime D m.zM [k] (idM D)))=mul (suf (exx D x m T) (k+1)) ((lvl (exx D x m T) k).cs.getD (i-(k+1)) []) (sig (suf (exx D x m T) (k+1)) (lvl (exx D x m T) k) ((((exx D x m T).zG.getD i []).getD (j-(i+1)) []).drop (k+1))):=by rw[zKY h hE hT hk hk,<-zMX h hE hT hk hc p9 (wZ) c7,<-zId h hE hT hk dO av,<-fu]
 have e2:adK m.Prime D (x.zA.length-(k+1)) (mul (suf (exx D x m T) (k+1)) ((lvl (exx D x m T) k).cs.getD (j-(k+1)) []) ((lcj x k i).drop (k+1)++zeros D)) (xL m.Prime D (T.getD (base x.zA.length k+(i-(k+1))) []) (wM m.Prime D m.zM [] (idM D)))=mul (suf (exx D x m T) (k+1)) ((lvl (exx D x m T) k).cs.getD (j-(k+1)) []) ((lvl (exx D x m T) k).cs.getD (i-(k+1)) []):=by rw[show wM m.Prime D m.zM [] (idM D)=idM D from rfl,sZ eF,<-zMX h hE hT hk hc cJ eF mn,<-c2]
 have d7:V (suf (exx D x m T) (k+1)) ((((exx D x m T).zG.getD i []).getD (j-(i+1)) []).drop (k+1)):=by rw[fu];exact yBZ h hE hT (by omega) dO
 obtain⟨hy,this⟩:=zGL h hE hT hk hc k1 k2 (r1:=base x.zA.length i+(j-(i+1))) (r2:=base x.zA.length k+(i-(k+1))) (s1:=[k]) (s2:=[]) (yO gz c7 p9) (yO gz mn cJ) v1 v2 (by rw[e1,e2,zBI h hE hT (by omega) c7 (zAx h hE hT hk d7),zBI h hE hT (by omega) mn c7,zDY h hE hT hk d7,zJH h hE hT hk h1 (by omega),zJH h hE hT hk (by omega) h2,zVl h hE hT hk h1 gI h2];exact(hL.c2 i h1 (by omega) j (by omega) h2).symm)
 rw[e1,e2]at this;refine⟨hy,?_⟩;rw[this];exact eq_comm
end
section
variable {D:Nat}{x:SPr}{m:zF}{T:Mx} (h:Pres x) (hE:ExB x.zA.length D x m T) (hT:∀i,i<T.length->Row m.Prime D (T.getD i []))
 include h hE hT
variable {k:Nat} (hk:k<x.zA.length) (hc:xC (suf (exx D x m T) (k+1)))
 include hk hc
 omit hc in
theorem zPc:∀(q:Nat){e:Vec},V (suf (exx D x m T) (k+1)) e->V (suf (exx D x m T) (k+1)) (iter q (sig (suf (exx D x m T) (k+1)) (lvl (exx D x m T) k)) e)
  |0,_,he=>he
  |q+1,_,he=>zPc q (zAx h hE hT hk he)
 omit hc in
theorem yAy:∀(q:Nat){e d:Vec},V (suf (exx D x m T) (k+1)) e->Row m.Prime D d->iter q (sig (suf (exx D x m T) (k+1)) (lvl (exx D x m T) k)) (adK m.Prime D (x.zA.length-(k+1)) e d)=adK m.Prime D (x.zA.length-(k+1)) (iter q (sig (suf (exx D x m T) (k+1)) (lvl (exx D x m T) k)) e) (xL m.Prime D d (wM m.Prime D m.zM (J1 q k) (idM D)))
  |0,e,d,_,hd=>by show adK _ _ _ e d=adK _ _ _ e (xL m.Prime D d (idM D));rw[sZ hd]
  |q+1,e,d,he,hd=>by have hp:=hE.m.p.pos;show iter q _ (sig _ _ (adK _ _ _ e d))=adK _ _ _ (iter q _ (sig _ _ e)) _;rw[zId h hE hT hk he hd,yAy q (zAx h hE hT hk he) (wZ),Jv,show k::J1 q k=[k]++J1 q k from rfl,zES (by omega),zKY h hE hT hk hk]
theorem zV0:∀(q:Nat){c:Int}{e:Vec},0<=c->c+(q:Int)<at0 x.zA k->V (suf (exx D x m T) (k+1)) e->fo (exx D x m T) k (c::e) (J1 q k)=(c+(q:Int))::iter q (sig (suf (exx D x m T) (k+1)) (lvl (exx D x m T) k)) e
 |0,c,e,_,_,_=>by show c::e=(c+((0:Nat):Int))::e;simp
 |q+1,c,e,h0,h1,he=>by
  rw[Jv,tZ,zGo h hE hT hk hc he,if_neg (by omega),zV0 q (by omega) (by omega) (zAx h hE hT hk he)]
  grind[iter]
theorem zV1(hL:LC x k)(h1:k+1<=j)(h2:j<x.zA.length)(k1:tT x k (k::(nw 0 (lcj x k j)++J1 (yD x k-1) k)) t1 y1)(k2:tT x k (j::nw 0 (x.zQ.getD k [])) t2 y2):
  y1=y2/\(tv m.Prime D m T ((base x.zA.length k+(j-(k+1)),J1 (yD x k-1) k)::t1)=tv m.Prime D m T ((k,[])::t2)↔c4E (exx D x m T) k j):=by
 have hp:=hE.m.p.pos;have ho:=(h.os.2 k hk).pos;have hon:(yD x k:Int)=at0 x.zA k:=by grind
 obtain⟨w1,w2,w3,w4⟩:=wE h hE hT hk hc;have pW:=zDn h hE hT (k:=k+1) (by omega) w1 (yX (p:=m.Prime) (D:=D));have fS:=zSp h hE hT hk;have eF:=zBG h hE hT hk;obtain⟨c1,c2,c3,c4⟩:=csE h hE hT hk hc h1 h2;have cJ:=zDn h hE hT (k:=k+1) (by omega) c1 (yX (p:=m.Prime) (D:=D));have ar:=zD4 h hE hT (show k<j by omega) h2;have gz:=uH h hE hT (k:=k+1) (by omega);have hg:=zCC h hE hT h1 h2;obtain⟨g1,g2⟩:=zRk h hE hT hk hc h1 h2;have hz:fo (exx D x m T) (k+1) (zeros ((exx D x m T).zA.length-(k+1))) []=zeros ((exx D x m T).zA.length-(k+1)):=rfl;have hs:sig (suf (exx D x m T) (k+1)) (lvl (exx D x m T) k) (zeros ((exx D x m T).zA.length-(k+1)))=zeros ((exx D x m T).zA.length-(k+1)):=by grind[sig,tN,yC]
 have hl:=xX h hE hT;have v1:=zEa h hE hT hk hc (v:=[]) (by simp) (z:=nw 0 (lcj x k j)++J1 (yD x k-1) k);rw[hz,hs]at v1;have v0:=v1.trans (zCB (e:=exx D x m T) (k:=k) (u:=(1:Int)::zeros ((exx D x m T).zA.length-(k+1))) (v:=nw 0 (lcj x k j)) (w:=J1 (yD x k-1) k));rw[zIi h hE hT hk hc (by omega) _ _ c4,c3]at v0;have ej:=zPc h hE hT hk (yD x k-2) cJ;have v1':fo (exx D x m T) k (zeros ((exx D x m T).zA.length-k)) (k::(nw 0 (lcj x k j)++J1 (yD x k-1) k))=0::mul (suf (exx D x m T) (k+1)) (lvl (exx D x m T) k).w (iter (yD x k-1) (sig (suf (exx D x m T) (k+1)) (lvl (exx D x m T) k)) ((lcj x k j).drop (k+1)++zeros D)):=by
  refine v0.trans ?_;rw[show yD x k-1=(yD x k-2)+1 from by omega,Lw,zCB,zV0 h hE hT hk hc (yD x k-2) (by omega) (by omega) cJ];show mul _ _ _=_;rw[zGo h hE hT hk hc ej,if_pos (by omega),xR]
  grind
 have hr:∀a∈j::nw 0 (x.zQ.getD k []),k+1<=a/\a<x.zA.length:=by grind
 have v2:fo (exx D x m T) k (zeros ((exx D x m T).zA.length-k)) (j::nw 0 (x.zQ.getD k []))=0::mul (suf (exx D x m T) (k+1)) (xH ((exx D x m T).zA.length-(k+1)) (j-(k+1))) ((x.zQ.getD k []).drop (k+1)++zeros D):=by rw[show zeros ((exx D x m T).zA.length-k)=0::zeros ((exx D x m T).zA.length-(k+1))from by rw[show(exx D x m T).zA.length-k=(exx D x m T).zA.length-(k+1)+1 from by omega];rfl,zIi h hE hT hk hc (by omega) _ _ hr,tZ,zRj h hE hT hk hc hg,zIj h hE hT hk hc w4 hg,w3]
 have e1:adK m.Prime D (x.zA.length-(k+1)) (mul (suf (exx D x m T) (k+1)) (lvl (exx D x m T) k).w (iter (yD x k-1) (sig (suf (exx D x m T) (k+1)) (lvl (exx D x m T) k)) ((lcj x k j).drop (k+1)++zeros D))) (xL m.Prime D (T.getD (base x.zA.length k+(j-(k+1))) []) (wM m.Prime D m.zM (J1 (yD x k-1) k) (idM D)))=mul (suf (exx D x m T) (k+1)) (lvl (exx D x m T) k).w (iter (lvl (exx D x m T) k).o.toNat (sig (suf (exx D x m T) (k+1)) (lvl (exx D x m T) k)) (xH ((exx D x m T).zA.length-(k+1)) (j-(k+1)))):=by rw[<-zMX h hE hT hk hc (zPc h hE hT hk _ cJ) (wZ) fS,<-yAy h hE hT hk _ cJ ar,<-c2,<-g2,zBt h hE hT hk,show(at0 x.zA k).toNat=(yD x k-1)+1 from by omega];rfl
 have e2:adK m.Prime D (x.zA.length-(k+1)) (mul (suf (exx D x m T) (k+1)) (xH ((exx D x m T).zA.length-(k+1)) (j-(k+1))) ((x.zQ.getD k []).drop (k+1)++zeros D)) (xL m.Prime D (T.getD k []) (wM m.Prime D m.zM [] (idM D)))=mul (suf (exx D x m T) (k+1)) (xH ((exx D x m T).zA.length-(k+1)) (j-(k+1))) (lvl (exx D x m T) k).w:=by rw[show wM m.Prime D m.zM [] (idM D)=idM D from rfl,sZ eF,<-zMX h hE hT hk hc pW eF hg,<-w2]
 have dY:(lvl (exx D x m T) k).w.take (x.zA.length-(k+1))=(lvl x k).w:=zIc h hE hT hk (Je k) hk;have gU:(xH (x.zA.length-(k+1)) (j-(k+1))).length=x.zA.length-(k+1):=by simp[xH,zeros]
 obtain⟨hy,this⟩:=zGL h hE hT hk hc k1 k2 (r1:=base x.zA.length k+(j-(k+1))) (r2:=k) (s1:=J1 (yD x k-1) k) (s2:=[]) (yO gz fS (zPc h hE hT hk _ cJ)) (yO gz hg pW) v1' v2 (by rw[e1,e2,zBI h hE hT (by omega) fS (zPc h hE hT hk _ hg),zBI h hE hT (by omega) hg fS,zKS h hE hT hk _ hg,dY,zVm h hE hT hk h1 h2,Js gU,zBt h hE hT hk];exact hL.c4 j h1 h2)
 rw[e1,e2]at this;exact⟨hy,this⟩
end
structure zLa (x:SPr) (k:Nat) (r1:Nat) (s1 w1:List Nat) (r2:Nat) (s2 w2:List Nat) (t1 t2:List (Nat×List Nat)):Prop where
 a:∃u1 y1,t1=(r1,s1)::u1/\tT x k w1 u1 y1
 b:∃u2 y2,t2=(r2,s2)::u2/\tT x k w2 u2 y2
structure yAz (x:SPr) (D:Nat) (m:zF) (T:Mx):Prop where
 p1:∀k j,k<j->j<x.zA.length-> ∀t1 t2,zLa x k j [k] (nw 0 (x.zQ.getD j [])++[k]) (base x.zA.length k+(j-(k+1))) [] (J1 (yD x j-1) j++k::nw 0 (lcj x k j)) t1 t2->tv m.Prime D m T t1=tv m.Prime D m T t2
 p2:∀k i j,k<i->i<j->j<x.zA.length-> ∀t1 t2,zLa x k (base x.zA.length i+(j-(i+1))) [k] (i::(nw 0 (lcj x i j)++[k])) (base x.zA.length k+(i-(k+1))) [] (j::k::nw 0 (lcj x k i)) t1 t2->tv m.Prime D m T t1=tv m.Prime D m T t2
 p3:∀k,k<x.zA.length-> ∀t1 t2,zLa x k k [k] (nw 0 (x.zQ.getD k [])++[k]) k [] (k::nw 0 (x.zQ.getD k [])) t1 t2->tv m.Prime D m T t1=tv m.Prime D m T t2
 p4:∀k j,k<j->j<x.zA.length-> ∀t1 t2,zLa x k (base x.zA.length k+(j-(k+1))) (J1 (yD x k-1) k) (k::(nw 0 (lcj x k j)++J1 (yD x k-1) k)) k [] (j::nw 0 (x.zQ.getD k [])) t1 t2->tv m.Prime D m T t1=tv m.Prime D m T t2
section
variable {D:Nat}{x:SPr}{m:zF}{T:Mx} (h:Pres x) (hE:ExB x.zA.length D x m T) (hT:∀i,i<T.length->Row m.Prime D (T.getD i []))
 include h hE hT
theorem zJI(hk:k<x.zA.length)(hL:LC x k)(hc:xC (suf (exx D x m T) (k+1))):LCn x (exx D x m T) k↔
  (∀j,k<j->j<x.zA.length-> ∀t1 t2,zLa x k j [k] (nw 0 (x.zQ.getD j [])++[k]) (base x.zA.length k+(j-(k+1))) [] (J1 (yD x j-1) j++k::nw 0 (lcj x k j)) t1 t2->tv m.Prime D m T t1=tv m.Prime D m T t2)/\
  (∀i j,k<i->i<j->j<x.zA.length-> ∀t1 t2,zLa x k (base x.zA.length i+(j-(i+1))) [k] (i::(nw 0 (lcj x i j)++[k])) (base x.zA.length k+(i-(k+1))) [] (j::k::nw 0 (lcj x k i)) t1 t2->tv m.Prime D m T t1=tv m.Prime D m T t2)/\
  (∀t1 t2,zLa x k k [k] (nw 0 (x.zQ.getD k [])++[k]) k [] (k::nw 0 (x.zQ.getD k [])) t1 t2->tv m.Prime D m T t1=tv m.Prime D m T t2)/\
  (∀j,k<j->j<x.zA.length-> ∀t1 t2,zLa x k (base x.zA.length k+(j-(k+1))) (J1 (yD x k-1) k) (k::(nw 0 (lcj x k j)++J1 (yD x k-1) k)) k [] (j::nw 0 (x.zQ.getD k [])) t1 t2->tv m.Prime D m T t1=tv m.Prime D m T t2):=by
 have hC:=fun(w:List Nat)(hw:∀a∈w,k<=a/\a<x.zA.length)=>zYB h (x.zA.length-k) k (by omega) w hw
 have fu:∀i j,i<j->j<x.zA.length-> ∀a∈nw 0 (lcj x i j),i+1<=a/\a<x.zA.length:=fun i j hi hj=>(tA h (uE h hi hj) (by omega)).2
 have fE:∀i,i<x.zA.length-> ∀a∈nw 0 (x.zQ.getD i []),i+1<=a/\a<x.zA.length:=fun i hi=>(tA h (sS h hi) hi).2
 constructor
 ·intro g
  refine⟨?_,?_,?_,?_⟩
  ·rintro j h1 h2 t1 t2 ⟨⟨u1,y1,rfl,k1⟩,⟨u2,y2,rfl,k2⟩⟩
   exact(zVy h hE hT hk hc hL (by omega) h2 k1 k2).2.2 (g.c1 j (by omega) h2)
  ·rintro i j h1 gI h2 t1 t2 ⟨⟨u1,y1,rfl,k1⟩,⟨u2,y2,rfl,k2⟩⟩
   exact(zVz h hE hT hk hc hL (by omega) gI h2 k1 k2).2.2 (g.c2 i (by omega) (by omega) j (by omega) h2)
  ·rintro t1 t2 ⟨⟨u1,y1,rfl,k1⟩,⟨u2,y2,rfl,k2⟩⟩
   exact(zVx h hE hT hk hc hL k1 k2).2.2 g.c3
  ·rintro j h1 h2 t1 t2 ⟨⟨u1,y1,rfl,k1⟩,⟨u2,y2,rfl,k2⟩⟩
   exact(zV1 h hE hT hk hc hL (by omega) h2 k1 k2).2.2 (g.c4 j (by omega) h2)
 ·rintro⟨g1,g2,g3,g4⟩
  refine⟨fun j h1 h2=>?_,fun i h1 hi j gI h2=>?_,?_,fun j h1 h2=>?_⟩
  ·obtain⟨u1,y1,k1⟩:=hC (nw 0 (x.zQ.getD j [])++[k]) (fun a ha=>by
    simp only[Ja,List.mem_singleton]at ha;rcases ha with ha|rfl
    ·grind
    ·omega)
   obtain⟨u2,y2,k2⟩:=hC (J1 (yD x j-1) j++k::nw 0 (lcj x k j)) (fun a ha=>by
    simp only[Ja,J9]at ha;rcases ha with ha|rfl|ha
    ·grind
    ·omega
    grind)
   exact(zVy h hE hT hk hc hL h1 h2 k1 k2).2.1 (g1 j (by omega) h2 _ _ ⟨⟨u1,y1,rfl,k1⟩,⟨u2,y2,rfl,k2⟩⟩)
  ·obtain⟨u1,y1,k1⟩:=hC (i::(nw 0 (lcj x i j)++[k])) (fun a ha=>by
    simp only[Ja,J9,G9,or_false]at ha;rcases ha with rfl|ha|rfl
    ·omega
    ·grind
    ·omega)
   obtain⟨u2,y2,k2⟩:=hC (j::k::nw 0 (lcj x k i)) (fun a ha=>by
    simp only[J9]at ha;rcases ha with rfl|rfl|ha
    ·omega
    ·omega
    grind)
   exact(zVz h hE hT hk hc hL h1 (by omega) h2 k1 k2).2.1 (g2 i j (by omega) (by omega) h2 _ _ ⟨⟨u1,y1,rfl,k1⟩,⟨u2,y2,rfl,k2⟩⟩)
  ·obtain⟨u1,y1,k1⟩:=hC (nw 0 (x.zQ.getD k [])++[k]) (fun a ha=>by
    simp only[Ja,List.mem_singleton]at ha;rcases ha with ha|rfl
    ·grind
    ·omega)
   obtain⟨u2,y2,k2⟩:=hC (k::nw 0 (x.zQ.getD k [])) (fun a ha=>by
    simp only[J9]at ha;rcases ha with rfl|ha
    ·omega
    grind)
   exact(zVx h hE hT hk hc hL k1 k2).2.1 (g3 _ _ ⟨⟨u1,y1,rfl,k1⟩,⟨u2,y2,rfl,k2⟩⟩)
  ·obtain⟨u1,y1,k1⟩:=hC (k::(nw 0 (lcj x k j)++J1 (yD x k-1) k)) (fun a ha=>by
    simp only[Ja,J9]at ha;rcases ha with rfl|ha|ha
    ·omega
    ·grind
    grind)
   obtain⟨u2,y2,k2⟩:=hC (j::nw 0 (x.zQ.getD k [])) (fun a ha=>by
    simp only[J9]at ha;rcases ha with rfl|ha
    ·omega
    grind)
   exact(zV1 h hE hT hk hc hL h1 h2 k1 k2).2.1 (g4 j (by omega) h2 _ _ ⟨⟨u1,y1,rfl,k1⟩,⟨u2,y2,rfl,k2⟩⟩)
theorem zJJ(hx:xC (suf x 0))(hr:zFF x m D):yAz x D m T↔xC (suf (exx D x m T) 0):=by
 have hl:=xX h hE hT;have pf:∀k,k<x.zA.length->LC x k:=fun k hk=>((kG h.w hk).1 (tO hx k)).2
 constructor
 ·intro g
  have key:∀(d k:Nat),k+d=x.zA.length->xC (suf (exx D x m T) k):=by
   intro d
   induction d with
   |zero=>grind[zIb]
   |succ d ih=>
    intro k hk;have hc:=ih (k+1) (by omega);refine(kG (zEJ h hE hT) (by omega)).2 ⟨hc,zVg h hE hT hr (by omega) ((zJI h hE hT (by omega) (pf k (by omega)) hc).2 ⟨?_,?_,?_,?_⟩)⟩
    ·exact fun j h1 h2 t1 t2 b=>g.p1 k j h1 h2 t1 t2 b
    ·exact fun i j h1 gI h2 t1 t2 b=>g.p2 k i j h1 gI h2 t1 t2 b
    ·exact fun t1 t2 b=>g.p3 k (by omega) t1 t2 b
    ·exact fun j h1 h2 t1 t2 b=>g.p4 k j h1 h2 t1 t2 b
  simp_all
 ·intro g
  have g0:=(zRc h hE hT hr).1 g;have hck:∀k,k<x.zA.length->xC (suf (exx D x m T) (k+1)):=by grind[tO]
  have key:=fun k(hk:k<x.zA.length)=>(zJI h hE hT hk (pf k hk) (hck k hk)).1 (g0 k hk)
  exact⟨fun k j h1 h2=>(key k (by omega)).1 j h1 h2,fun k i j h1 gI h2=>(key k (by omega)).2.1 i j h1 gI h2,fun k hk=>(key k hk).2.2.1,fun k j h1 h2=>(key k (by omega)).2.2.2 j h1 h2⟩
end
theorem Col.det{k':Nat}{w:List Nat}{w1 w2:List Nat}(h1:Col x k w t1 w1)(h2:Col x k' w t2 w2)(n1:stS x w1=jg)(n2:stS x w2=jg):t1=t2/\w1=w2:=by
 induction h1 generalizing t2 with
 |refl w=>
  cases h2 with
  |refl=>simp
  |step _ hs _=>grind
 |step hw hs hc ih=>
  cases h2 with
  |refl=>grind
  |step _ az po=>
   grind
structure Fh (n D D2:Nat) (m m2:zF) (T T2:Mx) (φ:Vec->Vec):Prop where
 pr:m2.Prime=m.Prime
 row:∀u,Row m.Prime D u->Row m.Prime D2 (φ u)
 z:φ (zeros D)=zeros D2
 add:∀u v,Row m.Prime D u->Row m.Prime D v->φ (adv m.Prime D u v)=adv m.Prime D2 (φ u) (φ v)
 act:∀k,k<n-> ∀u,Row m.Prime D u->φ (xL m.Prime D u (m.zM.getD k []))=xL m.Prime D2 (φ u) (m2.zM.getD k [])
 t:∀r,r<base n n->φ (T.getD r [])=T2.getD r []
def Fm(φ:Vec->Vec)(N:Nat)(e:Vec):Vec:=e.take N++φ (e.drop N)
theorem zAy{φ:Vec->Vec}{u:Vec}(hy:y.length=N):Fm φ N (y++u)=y++φ u:=by grind[Fm]
theorem zGM{φ:Vec->Vec}{b:Int}{e:Vec}:Fm φ (N+1) (b::e)=b::Fm φ N e:=by rfl
section
variable {D D2:Nat}{x:SPr}{m m2:zF}{T T2:Mx}{φ:Vec->Vec} (h:Pres x) (hE:ExB x.zA.length D x m T) (hT:∀i,i<T.length->Row m.Prime D (T.getD i [])) (gO:ExB x.zA.length D2 x m2 T2) (gS:∀i,i<T2.length->Row m2.Prime D2 (T2.getD i [])) (hF:Fh x.zA.length D D2 m m2 T T2 φ)
 include h hE hT gO gS hF
theorem yE1(hk:k<=x.zA.length):Fm φ (x.zA.length-k) (zeros (suf (exx D x m T) k).length)=zeros (suf (exx D2 x m2 T2) k).length:=by rw[zAS h hE hT hk,zAS h gO gS hk,zAy (zT _),hF.z]
theorem zRl(h1:k+1<=j)(h2:j<x.zA.length):Fm φ (x.zA.length-(k+1)) ((lvl (exx D x m T) k).cs.getD (j-(k+1)) [])=(lvl (exx D2 x m2 T2) k).cs.getD (j-(k+1)) []:=by
 have hn:=hE.hn;have hb:=zAd x.zA.length (by omega) k (by omega);have gy:V (suf x (k+1)) ((lcj x k j).drop (k+1)):=by grind[jC,uE]
 rw[zHZ h hE hT (by omega) h1 h2,zHZ h gO gS (by omega) h1 h2,show(lvl x k).cs.getD (j-(k+1)) []=(lcj x k j).drop (k+1)from map_drop,zAy (vB h (by omega) gy),hF.t _ (by omega)]
theorem yCb(hk:k<x.zA.length):Fm φ (x.zA.length-(k+1)) (lvl (exx D x m T) k).w=(lvl (exx D2 x m2 T2) k).w:=by have hn:=hE.hn;have hb:=wA x.zA.length (by omega);have cr:V (suf x (k+1)) ((x.zQ.getD k []).drop (k+1)):=jC (sS h hk) hk;rw[zHW h hE hT hk,zHW h gO gS hk,show(lvl x k).w=(x.zQ.getD k []).drop (k+1)from rfl,zAy (vB h (by omega) cr),hF.t _ (by omega)]
theorem zV2(hk:k<x.zA.length)(ih:∀a b,V (suf (exx D x m T) (k+1)) a->V (suf (exx D x m T) (k+1)) b->Fm φ (x.zA.length-(k+1)) (mul (suf (exx D x m T) (k+1)) a b)=mul (suf (exx D2 x m2 T2) (k+1)) (Fm φ (x.zA.length-(k+1)) a) (Fm φ (x.zA.length-(k+1)) b)){v:Vec}(hv:V (suf (exx D x m T) (k+1)) v):
  Fm φ (x.zA.length-(k+1)) (sig (suf (exx D x m T) (k+1)) (lvl (exx D x m T) k) v)=sig (suf (exx D2 x m2 T2) (k+1)) (lvl (exx D2 x m2 T2) k) (Fm φ (x.zA.length-(k+1)) v):=by
 have hp:=hE.m.p.pos;have ok:=uH h hE hT (k:=k+1) (by omega);obtain⟨y,u,rfl,hy,hu⟩:=(tM h hE hT (x.zA.length-(k+1)) (k+1) (by omega) _).1 hv;have eD:=vB h (by omega) hy;have p7:Row m2.Prime D2 (φ u):=by rw[hF.pr];exact hF.row u hu
 have hsg:Fm φ (x.zA.length-(k+1)) (sgG D x m T k y)=sgG D2 x m2 T2 k y:=by
  unfold sgG;rw[zEL (S:=V (suf (exx D x m T) (k+1))) (n:=mul (suf (exx D2 x m2 T2) (k+1))) (Fm φ (x.zA.length-(k+1))) (fun a b=>yO ok) ih _ _ _ (zRb h hE hT hk) (wD ok),yE1 h hE hT gO gS hF (by omega)]
  congr 1
  apply Gs
  ·grind[qH]
  ·intro i h1 h2
   rw[Jf,qH h hE hT]at h1;have e1:(eC1 x T k)[i]'(by grind)=(lvl (exx D x m T) k).cs.getD (k+1+i-(k+1)) []:=by rw[show k+1+i-(k+1)=i from by omega,zBE h hE hT hk,J2,Jy (by grind),J3 (by rw[qH h hE hT];exact h1)];rfl
   have e2:(eC1 x T2 k)[i]'h2=(lvl (exx D2 x m2 T2) k).cs.getD (k+1+i-(k+1)) []:=by rw[show k+1+i-(k+1)=i from by omega,zBE h gO gS hk,J2,Jy h2,J3 h2];rfl
   rw[List.getElem_map,e1,e2,zRl h hE hT gO gS hF (by omega) (by omega)]
 obtain⟨y1,u1,e,eE,cv⟩:=(tM h hE hT (x.zA.length-(k+1)) (k+1) (by omega) _).1 (zHX h hE hT hk (y:=y));have gL:=vB h (by omega) eE;rw[e,zAy gL]at hsg;rw[zBF h hE hT hk hy hu,e,Js gL,K1 gL,zAy gL,zAy eD,zBF h gO gS hk hy p7,<-hsg,Js gL,K1 gL,hF.pr,hF.add _ _ cv (wZ),hF.act k hk u hu]
theorem zLb{k:Nat}(hk:k<x.zA.length)(ih:∀a b,V (suf (exx D x m T) (k+1)) a->V (suf (exx D x m T) (k+1)) b->Fm φ (x.zA.length-(k+1)) (mul (suf (exx D x m T) (k+1)) a b)=mul (suf (exx D2 x m2 T2) (k+1)) (Fm φ (x.zA.length-(k+1)) a) (Fm φ (x.zA.length-(k+1)) b)):∀(q:Nat){v:Vec},V (suf (exx D x m T) (k+1)) v->
  Fm φ (x.zA.length-(k+1)) (iter q (sig (suf (exx D x m T) (k+1)) (lvl (exx D x m T) k)) v)=iter q (sig (suf (exx D2 x m2 T2) (k+1)) (lvl (exx D2 x m2 T2) k)) (Fm φ (x.zA.length-(k+1)) v)
 |0,_,_=>rfl
 |q+1,v,hv=>by show Fm φ _ (iter q _ (sig _ _ v))=iter q _ (sig _ _ (Fm φ _ v));rw[zLb hk ih q (zAx h hE hT hk hv),zV2 h hE hT gO gS hF hk ih hv]
theorem zPd:∀(d k:Nat),k+d=x.zA.length-> ∀a b,V (suf (exx D x m T) k) a->V (suf (exx D x m T) k) b->Fm φ (x.zA.length-k) (mul (suf (exx D x m T) k) a b)=mul (suf (exx D2 x m2 T2) k) (Fm φ (x.zA.length-k) a) (Fm φ (x.zA.length-k) b)
 |0,k,hk,a,b,ha,hb=>by
  have hp:=hE.m.p.pos;have mc:=gO.m.p.pos;rw[zAe h hE hT D k (by omega) (by omega)]at ha hb ⊢
  rw[zAe h gO gS D2 k (by omega) (by omega)];have pT:=(zD2 _ _).1 ha;have gZ:=(zD2 _ _).1 hb;have e:∀w:Vec,Fm φ (x.zA.length-k) w=φ w:=fun w=>by rw[Fm,show x.zA.length-k=0 from by omega];rfl
  rw[e,e,e,qG (by omega) D _ _ pT gZ,hF.add _ _ pT gZ,hF.pr,qG (by omega) D2 _ _ (hF.row _ pT) (hF.row _ gZ)]
 |d+1,k,hk,a,b,ha,hb=>by
  have eY:k<x.zA.length:=by omega
  have ih:=zPd d (k+1) (by omega);have hl:=xX h hE hT;have aT:=xX h gO gS;have ok:=uH h hE hT (k:=k+1) (by omega);have fS:=zSp h hE hT eY;rw[zY (x:=exx D x m T)]at ha hb ⊢
  rw[zY (x:=exx D2 x m2 T2)];cases a with
  |nil=>exact ha.elim
  |cons a u=>
  cases b with
  |nil=>exact hb.elim
  |cons b v=>
   obtain⟨_,ha⟩:=ha;obtain⟨_,hb⟩:=hb;have ej:=zPc h hE hT eY b.toNat ha;have hm:=yO ok ej hb;rw[show x.zA.length-k=x.zA.length-(k+1)+1 from by omega,zGM,zGM,yK,yK,zBt h hE hT eY,zBt h gO gS eY,<-zLb h hE hT gO gS hF eY ih _ ha,<-ih _ _ ej hb]
   by_cases g:a+b>=at0 x.zA k
   ·rw[if_pos g,if_pos g,zGM,ih _ _ fS hm,yCb h hE hT gO gS hF eY]
   ·rw[if_neg g,if_neg g,zGM]
end
section
variable {D D2:Nat}{x:SPr}{m m2:zF}{T T2:Mx}{φ:Vec->Vec} (h:Pres x) (hE:ExB x.zA.length D x m T) (hT:∀i,i<T.length->Row m.Prime D (T.getD i [])) (gO:ExB x.zA.length D2 x m2 T2) (gS:∀i,i<T2.length->Row m2.Prime D2 (T2.getD i [])) (hF:Fh x.zA.length D D2 m m2 T T2 φ)
 include h hE hT gO gS hF
theorem yA0{k:Nat}(hk:k<x.zA.length){c:Vec}(hc:V (suf (exx D x m T) (k+1)) c):∀q,Fm φ (x.zA.length-(k+1)) (pw (mul (suf (exx D x m T) (k+1))) (zeros (suf (exx D x m T) (k+1)).length) c q)=pw (mul (suf (exx D2 x m2 T2) (k+1))) (zeros (suf (exx D2 x m2 T2) (k+1)).length) (Fm φ (x.zA.length-(k+1)) c) q
 |0=>yE1 h hE hT gO gS hF (by omega)
 |q+1=>by have ok:=uH h hE hT (k:=k+1) (by omega);have hq:V (suf (exx D x m T) (k+1)) (pw (mul (suf (exx D x m T) (k+1))) (zeros (suf (exx D x m T) (k+1)).length) c q):=vX (by grind[yO]) q (wD ok);have ih:=yA0 hk hc q;rw[pw,xR,pw,xR];show Fm φ _ (mul _ (pw _ _ c q) c)=mul _ (pw _ _ (Fm φ _ c) q) (Fm φ _ c);rw[zPd h hE hT gO gS hF _ (k+1) (by omega:k+1+(x.zA.length-(k+1))=x.zA.length) _ _ hq hc,ih]
theorem yCc(hk:k<=j)(hj:j<x.zA.length):V (suf (exx D x m T) (k+1)) (((exx D x m T).zQ.getD j []).drop (k+1))/\Fm φ (x.zA.length-(k+1)) (((exx D x m T).zQ.getD j []).drop (k+1))=((exx D2 x m2 T2).zQ.getD j []).drop (k+1):=by
 have hn:=hE.hn;have hb:=wA x.zA.length (by omega);have hpx:V (suf x (k+1)) ((x.zQ.getD j []).drop (k+1)):=by grind[jC,zKZ,sS]
 rw[zDW h hE hT hk hj,zDW h gO gS hk hj];exact⟨by grind[zDn,zBG],by rw[zAy (vB h (by omega) hpx),hF.t _ (by omega)]⟩
theorem yCd(hk:k<=i)(hi:i<j)(hj:j<x.zA.length):V (suf (exx D x m T) (k+1)) ((((exx D x m T).zG.getD i []).getD (j-(i+1)) []).drop (k+1))/\Fm φ (x.zA.length-(k+1)) ((((exx D x m T).zG.getD i []).getD (j-(i+1)) []).drop (k+1))=(((exx D2 x m2 T2).zG.getD i []).getD (j-(i+1)) []).drop (k+1):=by
 have hn:=hE.hn;have hb:=zAd x.zA.length (by omega) i (by omega);have d5:V (suf x (k+1)) ((lcj x i j).drop (k+1)):=by grind[jC,zKZ,uE]
 rw[zFO h hE hT hk hi hj,zFO h gO gS hk hi hj];exact⟨by grind[zDn,zD4],by rw[zAy (vB h (by omega) d5),hF.t _ (by omega)]⟩
theorem zYC(h1:k+1<=j)(h2:j<x.zA.length):Fm φ (x.zA.length-(k+1)) (xH ((exx D x m T).zA.length-(k+1)) (j-(k+1)))=xH ((exx D2 x m2 T2).zA.length-(k+1)) (j-(k+1)):=by rw[zSo h hE hT h1 h2,zSo h gO gS h1 h2,zAy (by simp[xH,zeros]),hF.z]
theorem zYD(hk:k<x.zA.length):LCQ (fun k a b=>Fm φ (x.zA.length-k) a=Fm φ (x.zA.length-k) b) x (exx D x m T) k↔LCn x (exx D2 x m2 T2) k:=by
 have hl:=xX h hE hT;have ok:=uH h hE hT (k:=k+1) (by omega);have fY:=zPd h hE hT gO gS hF _ (k+1) (by omega:k+1+(x.zA.length-(k+1))=x.zA.length);have eA:=fun v hv=>zV2 h hE hT gO gS hF hk fY (v:=v) hv
 have fS:=zSp h hE hT hk;have e1:∀j,k+1<=j->j<x.zA.length->(c1Q (fun k a b=>Fm φ (x.zA.length-k) a=Fm φ (x.zA.length-k) b) (exx D x m T) k j↔c1E (exx D2 x m2 T2) k j):=fun j h1 h2=>by obtain⟨p1,p2⟩:=yCc h hE hT gO gS hF (k:=k) (j:=j) (by omega) h2;unfold c1Q c1E;show Fm φ _ _=Fm φ _ _↔_;rw[yA0 h hE hT gO gS hF hk (zNb h hE hT hk h1 h2),zRl h hE hT gO gS hF h1 h2,eA _ p1,p2,tF h hE hT h2,tF h gO gS h2]
 have e2:∀i j,k+1<=i->i<j->j<x.zA.length->(c2Q (fun k a b=>Fm φ (x.zA.length-k) a=Fm φ (x.zA.length-k) b) (exx D x m T) k i j↔c2E (exx D2 x m2 T2) k i j):=fun i j h1 gI h2=>by obtain⟨p1,p2⟩:=yCd h hE hT gO gS hF (k:=k) (by omega) gI h2;have ci:=zNb h hE hT hk h1 (by omega);have cj:=zNb h hE hT hk (by omega) h2;unfold c2Q c2E;show Fm φ _ _=Fm φ _ _↔_;rw[fY _ _ cj ci,fY _ _ ci (zAx h hE hT hk p1),zRl h hE hT gO gS hF h1 (by omega),zRl h hE hT gO gS hF (by omega) h2,eA _ p1,p2]
 have e3:Fm φ (x.zA.length-(k+1)) (sig (suf (exx D x m T) (k+1)) (lvl (exx D x m T) k) (lvl (exx D x m T) k).w)=Fm φ (x.zA.length-(k+1)) (lvl (exx D x m T) k).w↔sig (suf (exx D2 x m2 T2) (k+1)) (lvl (exx D2 x m2 T2) k) (lvl (exx D2 x m2 T2) k).w=(lvl (exx D2 x m2 T2) k).w:=by rw[eA _ fS,yCb h hE hT gO gS hF hk]
 have e4:∀j,k+1<=j->j<x.zA.length->(c4Q (fun k a b=>Fm φ (x.zA.length-k) a=Fm φ (x.zA.length-k) b) (exx D x m T) k j↔c4E (exx D2 x m2 T2) k j):=fun j h1 h2=>by have hg:=zCC h hE hT h1 h2;unfold c4Q c4E;show Fm φ _ _=Fm φ _ _↔_;rw[fY _ _ fS (zPc h hE hT hk _ hg),fY _ _ hg fS,zLb h hE hT gO gS hF hk fY _ hg,zYC h hE hT gO gS hF h1 h2,yCb h hE hT gO gS hF hk,zBt h hE hT hk,zBt h gO gS hk]
 constructor
 ·intro g
  exact⟨fun j h1 h2=>(e1 j h1 h2).1 (g.c1 j h1 h2),fun i h1 hi j gI h2=>(e2 i j h1 (by omega) h2).1 (g.c2 i h1 hi j gI h2),e3.1 g.c3,fun j h1 h2=>(e4 j h1 h2).1 (g.c4 j h1 h2)⟩
 ·intro g
  exact⟨fun j h1 h2=>(e1 j h1 h2).2 (g.c1 j h1 h2),fun i h1 hi j gI h2=>(e2 i j h1 (by omega) h2).2 (g.c2 i h1 hi j gI h2),e3.2 g.c3,fun j h1 h2=>(e4 j h1 h2).2 (g.c4 j h1 h2)⟩
theorem zIk{m0:zF}(hM:Mv D x.zA.length m0 m)(hx:xC (suf x 0))(hr:zFF x m2 D2):∃L,zL1 ⟨x,m0,T⟩=jf L/\L.length<=1000/\(∀r∈L,Row m.Prime D r)/\((∀r∈L,φ r=zeros D2)↔xC (suf (exx D2 x m2 T2) 0)):=by
 have hp:=hE.m.p.pos;have mc:=gO.m.p.pos;obtain⟨L,e,g⟩:=yBT h hE hT hM (Z:=fun r=>φ r=zeros D2) (Q:=fun k a b=>Fm φ (x.zA.length-k) a=Fm φ (x.zA.length-k) b) (fun k hk a b ha hb e=>by
  obtain⟨y,u,rfl,hy,hu,_,eD⟩:=prV h hE hT hk ha;obtain⟨z,v,rfl,hz,hv,_,ck⟩:=prV h hE hT hk hb;rw[Js eD,Js ck]at e;subst e;rw[K1 eD,K1 eD,zAy eD,zAy eD,List.append_cancel_left_eq];have ha:=qW (p:=m.Prime) (D:=D) (r:=u) (s:=v) (k:=-1) hE.m.p;have hs:adv m.Prime D (uR m.Prime D u (-1) v) v=u:=by refine Eq.trans (zX (g:=fun j=>at0 u j) fun j hj=>?_) (vJ hu.1).symm;have hr:=hu.2 j hj;rw[uR,zW hj,G4,show at0 u j+ -1*at0 v j+at0 v j=at0 u j from by omega,Jq (by omega) (by omega)]
  have hφ:=hF.add _ _ ha hv;rw[hs]at hφ;have hra:=hF.row _ ha;have hrv:=hF.row _ hv;constructor
  ·intro g
   rw[hφ,g,uA hrv]
  ·intro g
   rw[hφ,uX]at g;have:=(zY2 (u:=φ v) hra (yX (p:=m.Prime) (D:=D2))).1 (by grind[zAv]);exact this) hx
 refine⟨L,e,g.len,g.row,g.iff.trans ?_⟩
 grind[zRc,zYD]
end
theorem zLc{D:Nat}{f:Nat->Int}:∀B:Nat,S (B*D) f=S B fun q=>S D fun l=>f (q*D+l)
 |0=>by rw[Uy];rfl
 |B+1=>by rw[K8,zGG,zLc B];rfl
def blk(D:Nat)(w:Vec)(q:Nat):Vec:=mkv D fun j=>at0 w (q*D+j)
theorem jO{B q:Nat}(hq:q<B)(hl:l<D):q*D+l<B*D:=by
 have:=Kc D (show q+1<=B by omega)
 grind
theorem zRm{p:Int}{B:Nat}{w:Vec}(hw:Row p (B*D) w){q:Nat}(hq:q<B):Row p D (blk D w q):=
 ⟨zU _ _,fun j hj=>by rw[blk,zW hj];exact hw.2 _ (jO hq hj)⟩
theorem sA{q:Nat}(hl:l<D):(q*D+l)/D=q/\(q*D+l)%D=l:=by grind[Nat.mul_comm,Nat.mul_add_div,Nat.div_eq_of_lt,Nat.mul_add_mod,Nat.mod_eq_of_lt]
def ABk(B D:Nat)(A:Mx):Mx:=gl (B*D) fun i=>mkv (B*D) fun j=>if i/D=j/D then ent A (i%D) (j%D)else 0
theorem zRn{B:Nat}(hi:i<B*D)(hj:j<B*D):ent (ABk B D A) i j=if i/D=j/D then ent A (i%D) (j%D)else 0:=by
 show at0 ((gl (B*D) _).getD i []) j=_
 grind[zW]
theorem zYE{p:Int}{B:Nat}(hp:2<=p)(hD:0<D)(hA:Mat p D A):Mat p (B*D) (ABk B D A):=by
 refine⟨wL,fun i hi=>?_⟩;rw[ABk,xJ hi];refine⟨zU _ _,fun j hj=>?_⟩;rw[zW hj];split
 ·exact(hA.2 (i%D) (Hu _ hD)).2 _ (Hu _ hD)
 ·omega
theorem zNd{p:Int}{B:Nat}{u:Vec}{q:Nat}(hq:q<B)(hl:l<D):at0 (xL p (B*D) u (ABk B D A)) (q*D+l)=S D (fun i=>at0 u (q*D+i)*ent A i l)%p:=by
 rw[xL,zW (jO hq hl),zLc]
 congr 1
 rw[kI (k:=q) hq fun i hi gc=>?_]
 ·refine xV fun i hi=>?_
  rw[zRn (jO hq hi) (jO hq hl),(sA hi).1,(sA hi).2,(sA hl).1,(sA hl).2,if_pos rfl]
 ·rw[xV (g:=fun _=>0) fun j hj=>?_,sX]
  rw[zRn (jO hi hj) (jO hq hl),(sA hj).1,(sA hl).1,if_neg gc,Lo]
theorem zYF{p:Int}{B:Nat}{u:Vec}{q:Nat}(hq:q<B):blk D (xL p (B*D) u (ABk B D A)) q=xL p D (blk D u q) A:=by
 refine zX fun l hl=>?_
 grind[zNd,xV,blk,zW]
theorem zNe{B:Nat}{w:Vec}(hw:w.length=B*D){q:Nat}(hq:q<B):(w.drop (q*D)).take D=blk D w q:=by
 have h1:=Kc D (show q+1<=B by omega);rw[K8]at h1;apply Gs
 ·grind[blk,zU]
 grind[blk,mkv]
theorem zV3{B:Nat}{w:Vec}(hw:w.length=B*D){q:Nat}(hq:q<B):w.take (q*D)++blk D w q=w.take ((q+1)*D):=by rw[<-zNe hw hq,K8,List.take_add]
def mBk(B D n:Nat)(m:zF):zF:=⟨m.Prime,((B*D:Nat):Int),(Jd n).map fun k=>ABk B D (m.zM.getD k [])⟩
theorem zLd{B n:Nat}(hk:k<n):(mBk B D n m).zM.getD k []=ABk B D (m.zM.getD k []):=by grind[mBk]
theorem yCe{B n:Nat}(hm:MOk n m D)(h2:B*D<=200:=by omega):zUJ n (mBk B D n m) (B*D):=by have h1:=hm.d1;have hp:=hm.p.pos;refine⟨hm.p,h2,by simp[mBk],fun i hi=>?_⟩;rw[zLd hi];exact zYE (by show 2<=m.Prime;omega) (by omega) (hm.mat i hi)
theorem yCf{B n:Nat}(hm:MOk n m D)(h2:B*D<=200:=by omega):Mv (B*D) n m (mBk B D n m):=by
 refine⟨rfl,fun k hk u hu=>?_⟩;have h1:=hm.d1;have h3:=hm.d3;have gU:=hu.1;have hml:=hm.len;have hA:=hm.mat k hk;rw[zLd hk];have hR:(xL m.Prime (B*D) u (ABk B D (m.zM.getD k []))).length=B*D:=by rw[xL,zU]
 unfold zXf;have:=zO (body:=zD7 m u (k:Int)) (r:=xL m.Prime (B*D) u (ABk B D (m.zM.getD k []))) (fun i=>((xL m.Prime (B*D) u (ABk B D (m.zM.getD k []))).take (i*D),((i*D:Nat):Int))) B (fun i hi=>by
  have gK:=Kc D (show i+1<=B by omega);rw[K8]at gK;unfold zD7;simp only
  rw[jk,zH,hm.d,zB,bs];have cy:zS u ((i*D:Nat):Int) (((i*D:Nat):Int)+(D:Int))=jf (blk D u i):=by
   unfold zS;rw[if_pos ⟨by omega,by omega,by omega⟩]
   congr 1
   rw[show(((i*D:Nat):Int)+(D:Int)).toNat=i*D+D from by omega,J8,H4];exact zNe gU hi
  rw[cy,bs,yA [],bs,zDS hm.p (by omega) (zRm hu hi) hA,bs,<-zYF (B:=B) hi,zV (by rw[Ke,blk,zU];omega),bs,zV3 hR hi,bs,K8];rfl) (by
  unfold zD7;simp only
  rw[jj (by omega),zK,Jx (by omega)])
 rw[Uy,Kd]at this;rw[show((0:Nat):Int)=0 from rfl]at this;rw[this,bs];rfl
def phi(p:Int)(B D:Nat)(c w:Vec):Vec:=mkv D fun j=>S B (fun q=>at0 c q*at0 w (q*D+j))%p
theorem zYG{p:Int}{B:Nat}{w:Vec}(hp:2<=p):Row p D (phi p B D c w):=⟨zU _ _,fun j hj=>by rw[phi,zW hj];exact⟨Kk _ (by omega),by have:=Kh (S B fun q=>at0 c q*at0 w (q*D+j)) (show 0<p by omega);omega⟩⟩
def Tc(N D:Nat)(c:Vec):Mx:=gl N fun i=>blk D c i
theorem yCg{n B:Nat}{TB:Mx}(hm:MOk n m D)(hN:B=N*D)(hb:base n n=N)(hc:Row m.Prime B c)(ht:∀i,i<N->TB.getD i []=mkv (B*D) fun j=>if j/D=i*D+j%D then 1 else 0):Fh n (B*D) D (mBk B D n m) m TB (Tc N D c) (phi m.Prime B D c):=by
 have hp:=hm.p.pos;have h1:=hm.d1;refine⟨rfl,fun u _=>zYG (by show 2<=m.Prime;omega),?_,fun u v hu hv=>?_,fun k hk u hu=>?_,fun r hr=>?_⟩
 ·rw[show zeros D=mkv D fun _=>0 from uD D]
  refine zX fun j hj=>?_
  rw[xV (g:=fun _=>0) fun q hq=>by rw[wJ,Lo],sX];simp
 ·refine zX fun j hj=>?_
  rw[phi,phi,zW hj,zW hj];show _%m.Prime=(_%m.Prime+_%m.Prime)%m.Prime;rw[<-Ka,<-zC2];refine kH fun q hq=>?_
  rw[zW (jO hq hj),<-Jak];show(at0 c q*((at0 u (q*D+j)+at0 v (q*D+j))%m.Prime))%m.Prime=_
  grind[Jz,K3]
 ·rw[zLd hk]
  refine zX fun j hj=>?_
  show S B (fun q=>at0 c q*at0 (xL m.Prime (B*D) u (ABk B D (m.zM.getD k []))) (q*D+j))%m.Prime=S D (fun l=>at0 (phi m.Prime B D c u) l*ent (m.zM.getD k []) l j)%m.Prime;rw[kH (g:=fun q=>at0 c q*S D (fun i=>at0 u (q*D+i)*ent (m.zM.getD k []) i j)) (by grind[zNd,Jz,K3])];rw[kH (f:=fun l=>at0 (phi m.Prime B D c u) l*ent (m.zM.getD k []) l j) (g:=fun l=>S B (fun q=>at0 c q*at0 u (q*D+l))*ent (m.zM.getD k []) l j) (by grind[phi,zW,Jz,K3])]
  congr 1
  rw[xV (g:=fun q=>S D (fun i=>at0 c q*(at0 u (q*D+i)*ent (m.zM.getD k []) i j))) (by grind[zC3]),zHH];refine xV fun l hl=>?_
  rw[<-zM4]
  grind
 ·rw[hb]at hr
  rw[ht r hr,Tc,xJ hr];refine zX fun j hj=>?_
  have gK:r*D+j<B:=by rw[hN];exact jO hr hj
  rw[kI (k:=r*D+j) gK fun q hq gc=>?_]
  ·rw[zW (jO gK hj),(sA hj).1,(sA hj).2,if_pos rfl,L8]
   have:=hc.2 _ gK;exact Jq this.1 (by omega)
  ·rw[zW (jO hq hj),(sA hj).1,(sA hj).2,if_neg gc,Lo]
def uT(N D:Nat):Mx:=gl N fun i=>mkv (N*D*D) fun j=>if j/D=i*D+j%D then 1 else 0
section
variable {x:SPr}{m:zF}{D:Nat} (hx:zAA x) (hD:MOk x.zA.length m D)
 include hx hD
theorem zPe{D2:Nat}{m2:zF}{T:Mx}(hm:zUJ x.zA.length m2 D2)(ht:T.length=base x.zA.length x.zA.length):ExB x.zA.length D2 x m2 T:=by have _:=hD;refine⟨hx.n6,rfl,hx.pl,hx.cl,fun i hi=>?_,ht,hm⟩;have:=(hx.tl i hi).2.1;omega
theorem zNf(hy:Row m.Prime (base x.zA.length x.zA.length*D) y):ExB x.zA.length D x m (Tc (base x.zA.length x.zA.length) D y)/\ ∀i,i<(Tc (base x.zA.length x.zA.length) D y).length->Row m.Prime D ((Tc (base x.zA.length x.zA.length) D y).getD i []):=by
 refine⟨zPe hx hD hD.b wL,fun i hi=>?_⟩
 grind[Tc,zRm]
theorem zV4(h0:0<x.zA.length)(hc:xC (suf x 0))(hr:zFF x m D):∃L,zL1 ⟨x,m,uT (base x.zA.length x.zA.length) D⟩=jf L/\L.length<=1000/\(∀r∈L,Row m.Prime (base x.zA.length x.zA.length*D*D) r)/\
  ∀y,Row m.Prime (base x.zA.length x.zA.length*D) y->((∀r∈L,phi m.Prime (base x.zA.length x.zA.length*D) D y r=zeros D)↔xC (suf (exx D x m (Tc (base x.zA.length x.zA.length) D y)) 0)):=by
 have h6:=hx.n6;have hb:=wA x.zA.length (by omega);have h1:=hD.d1;have h3:=hD.d3;have hp:=hD.p.pos;have hB:base x.zA.length x.zA.length*D<=21*3:=Jr hb.2.1 h3;have hBD:base x.zA.length x.zA.length*D*D<=63*3:=Jr (by omega) h3;have hE:=zPe hx hD (T:=uT (base x.zA.length x.zA.length) D) (yCe (B:=base x.zA.length x.zA.length*D) hD) wL;have hT:∀i,i<(uT (base x.zA.length x.zA.length) D).length->Row (mBk (base x.zA.length x.zA.length*D) D x.zA.length m).Prime (base x.zA.length x.zA.length*D*D) ((uT (base x.zA.length x.zA.length) D).getD i []):=fun i hi=>by rw[uT,wL]at hi;rw[uT,xJ hi];refine⟨zU _ _,fun j hj=>?_⟩;rw[zW hj];show _/\_<=m.Prime-1;omega
 have hM:=yCf (B:=base x.zA.length x.zA.length*D) hD;have key:∀y,Row m.Prime (base x.zA.length x.zA.length*D) y-> ∃L,zL1 ⟨x,m,uT (base x.zA.length x.zA.length) D⟩=jf L/\L.length<=1000/\(∀r∈L,Row m.Prime (base x.zA.length x.zA.length*D*D) r)/\((∀r∈L,phi m.Prime (base x.zA.length x.zA.length*D) D y r=zeros D)↔xC (suf (exx D x m (Tc (base x.zA.length x.zA.length) D y)) 0)):=fun y hy=>by obtain⟨e1,e2⟩:=zNf hx hD hy;exact zIk hx.toPres hE hT e1 e2 (yCg hD rfl rfl hy (by grind[uT])) hM hc hr
 obtain⟨L,l1,l2,l3,_⟩:=key (zeros (base x.zA.length x.zA.length*D)) (yX)
 grind
end
def zEU(D k:Nat)(L:Mx):List Int:=(L.map fun r=>blk D r k).flatten
theorem zNg{D k:Nat}:∀L:Mx,(zEU D k L).length=L.length*D
 | []=>by rw[zEU];simp
 |r::L=>by
  have ih:=zNg (D:=D) (k:=k) L
  grind[zEU,blk,zU]
theorem zLe{D k:Nat}:∀(L:Mx)(i j:Nat),i<L.length->j<D->at0 (zEU D k L) (i*D+j)=at0 (L.getD i []) (k*D+j)
 | [],i,j,hi,_=>by simp at hi
 |r::L,i,j,hi,hj=>by
  have hl:(blk D r k).length=D:=zU _ _;simp only[zEU,Ju,Hr];cases i with
  |zero=>
   rw[Uy,Ji,Gm,at0,J2,Jy (by omega),<-J2];show at0 (blk D r k) j=_;rw[blk,zW hj]
  |succ i=>
   have ih:=zLe (D:=D) (k:=k) L i j (by grind) hj;simp only[zEU]at ih
   grind
theorem zV5{p:Int}{B:Nat}{L:Mx}:(∀c,c<L.length*D->(S B fun k=>at0 y k*ent (gl B fun k=>zEU D k L) k c)%p=0)↔ ∀r∈L,phi p B D y r=zeros D:=by
 have e:∀i j,i<L.length->j<D->(S B fun k=>at0 y k*ent (gl B fun k=>zEU D k L) k (i*D+j))%p=at0 (phi p B D y (L.getD i [])) j:=fun i j hi hj=>by
  rw[phi,zW hj]
  congr 1
  refine xV fun k hk=>?_
  show at0 y k*at0 ((gl B fun k=>zEU D k L).getD k []) (i*D+j)=_
  grind[zLe]
 constructor
 ·intro g r hr
  obtain⟨i,hi,rfl⟩:=Ld.1 hr;rw[show zeros D=mkv D fun _=>0 from uD D,vJ (D:=D) (v:=phi p B D y L[i]) (zU _ _)];refine zX fun j hj=>?_
  have:=e i j hi hj;rw[J2,J3 hi]at this;rw[<-g _ (jO hi hj),this];rfl
 ·intro g c hc
  have hD:0<D:=by grind
  have hi:c/D<L.length:=(H6 hD).2 hc;have hj:c%D<D:=Hu _ hD;rw[show c=c/D*D+c%D from by grind[Lx],e _ _ hi hj,g _ (by rw[J2,J3 hi];exact Jp hi),wJ]
def zAT(p:Int)(D:Nat)(m:zF):List (Nat×List Nat)->Nat->Nat->Nat->Int
 | [],_,_,_=>0
 |(q,s)::t,r,i,j=>(if q=r then ent (wM p D m.zM s (idM D)) i j else 0)+zAT p D m t r i j
section
variable {p:Int}{D N:Nat}{m:zF}{y:Vec}
theorem zV6{j:Nat}(hj:j<D):∀t:List (Nat×List Nat),(∀q∈t,q.1<N)->at0 (tv p D m (Tc N D y) t) j=(S N fun r=>S D fun i=>at0 y (r*D+i)*zAT p D m t r i j)%p
 | [],_=>by
  show at0 (zeros D) j=_;rw[wJ,xV (g:=fun _=>0) fun r _=>by rw[xV (g:=fun _=>0) fun i _=>by rw[zAT,Lo],sX],sX]
  rfl
 |(q,s)::t,h=>by
  have hq:q<N:=h (q,s) (by simp);have ih:=zV6 hj t (by grind);show at0 (adv p D (xL p D ((Tc N D y).getD q []) (wM p D m.zM s (idM D))) (tv p D m (Tc N D y) t)) j=_;rw[show adv p D=fun u v=>mkv D fun j=>(at0 u j+at0 v j)%p from rfl];show at0 (mkv D _) j=_;rw[zW hj,ih,xL,zW hj,<-Ka]
  congr 1
  have e:(S N fun r=>S D fun i=>at0 y (r*D+i)*zAT p D m ((q,s)::t) r i j)=
    (S N fun r=>S D fun i=>at0 y (r*D+i)*(if q=r then ent (wM p D m.zM s (idM D)) i j else 0))+S N fun r=>S D fun i=>at0 y (r*D+i)*zAT p D m t r i j:=by
   rw[<-zC2];refine xV fun r _=>?_
   rw[<-zC2]
   grind[zAT]
  rw[e]
  congr 1
  rw[kI (k:=q) hq fun r _ hr=>by rw[xV (g:=fun _=>0) (by grind),sX]]
  refine xV fun l hl=>?_
  rw[if_pos rfl,Tc,xJ hq,blk,zW hl]
end
def prR(p:Int)(D:Nat)(m:zF)(t1 t2:List (Nat×List Nat))(k:Nat):List Int:=mkv D fun j=>(zAT p D m t1 (k/D) (k%D) j-zAT p D m t2 (k/D) (k%D) j)%p
section
variable {p:Int}{D N:Nat}{m:zF}{y:Vec}
theorem zRo(hp:2<=p)(h1:∀q∈t1,q.1<N)(h2:∀q∈t2,q.1<N):
  (∀j,j<D->(S (N*D) fun k=>at0 y k*at0 (prR p D m t1 t2 k) j)%p=0)↔tv p D m (Tc N D y) t1=tv p D m (Tc N D y) t2:=by
 have e:∀j,j<D->(S (N*D) fun k=>at0 y k*at0 (prR p D m t1 t2 k) j)%p=(at0 (tv p D m (Tc N D y) t1) j-at0 (tv p D m (Tc N D y) t2) j)%p:=fun j hj=>by
  rw[zV6 hj t1 h1,zV6 hj t2 h2,<-Qg,zLc];have e1:((S N fun r=>S D fun i=>at0 y (r*D+i)*zAT p D m t1 r i j)-S N fun r=>S D fun i=>at0 y (r*D+i)*zAT p D m t2 r i j)=S N fun r=>S D fun i=>at0 y (r*D+i)*(zAT p D m t1 r i j-zAT p D m t2 r i j):=by
   have:(S N fun r=>S D fun i=>at0 y (r*D+i)*zAT p D m t1 r i j)=(S N fun r=>S D fun i=>at0 y (r*D+i)*(zAT p D m t1 r i j-zAT p D m t2 r i j))+S N fun r=>S D fun i=>at0 y (r*D+i)*zAT p D m t2 r i j:=by
    rw[<-zC2];refine xV fun r _=>?_
    rw[<-zC2]
    grind
   omega
  rw[e1];refine kH fun r _=>kH fun i hi=>?_
  grind[sA,prR,zW,Jz,K3]
 constructor
 ·intro g
  have r1:=zKW (D:=D) (m:=m) (T:=Tc N D y) hp t1;have r2:=zKW (D:=D) (m:=m) (T:=Tc N D y) hp t2;rw[vJ r1.1,vJ r2.1];refine zX fun j hj=>?_
  have k:=e j hj;rw[g j hj]at k;have b1:=r1.2 j hj;have b2:=r2.2 j hj;have:=Int.emod_emod_of_dvd (at0 (tv p D m (Tc N D y) t1) j-at0 (tv p D m (Tc N D y) t2) j) (Int.dvd_refl p);have iQ:p∣at0 (tv p D m (Tc N D y) t1) j-at0 (tv p D m (Tc N D y) t2) j:=by omega
  obtain⟨c,hc⟩:=iQ;have:c=0:=by
   rcases Int.lt_trichotomy c 0 with gC|h0|hgt
   ·have:p*c<=p*(-1):=Q8 (by omega) (by omega)
    omega
   ·exact h0
   ·have:p*1<=p*c:=Q8 (by omega) (by omega)
    omega
  grind
 simp_all
end
abbrev Trc:=List (Nat×List Nat)
variable {prs:List (Trc×Trc)}
structure PD where
 k:Nat
 wd:List Nat
 t:Nat
 r1:Nat
 s1:List Nat
 w1:List Nat
 r2:Nat
 s2:List Nat
 w2:List Nat
section
variable (x:SPr)
abbrev PD.B(d:PD)(t1 t2:Trc):Prop:=zLa x d.k d.r1 d.s1 d.w1 d.r2 d.s2 d.w2 t1 t2
def ups(n i:Nat):List Nat:=K7 (i+1) (n-(i+1))
def pd2(i j k:Nat):PD:=⟨i,[k,j,i],1,base x.zA.length j+(k-(j+1)),[i],j::(nw 0 (lcj x j k)++[i]),base x.zA.length i+(j-(i+1)),[],k::i::nw 0 (lcj x i j)⟩
def pd1(i j:Nat):PD:=⟨i,J1 (yD x j) j++[i],yD x j-1,j,[i],nw 0 (x.zQ.getD j [])++[i],base x.zA.length i+(j-(i+1)),[],J1 (yD x j-1) j++i::nw 0 (lcj x i j)⟩
def pd4(i j:Nat):PD:=⟨i,j::J1 (yD x i) i,1,base x.zA.length i+(j-(i+1)),J1 (yD x i-1) i,i::(nw 0 (lcj x i j)++J1 (yD x i-1) i),i,[],j::nw 0 (x.zQ.getD i [])⟩
def pd3(i:Nat):PD:=⟨i,J1 (yD x i+1) i,1,i,[i],nw 0 (x.zQ.getD i [])++[i],i,[],i::nw 0 (x.zQ.getD i [])⟩
def cps:List PD:=
 ((Jd x.zA.length).flatMap fun i=>(ups x.zA.length i).flatMap fun j=>(ups x.zA.length j).map fun k=>pd2 x i j k)++
 (((Jd x.zA.length).flatMap fun i=>(ups x.zA.length i).map fun j=>pd1 x i j)++
 (((Jd x.zA.length).flatMap fun i=>(ups x.zA.length i).map fun j=>pd4 x i j)++
 (Jd x.zA.length).map fun i=>pd3 x i))
end
theorem zEV{n:Nat}:j∈ups n i↔i<j/\j<n:=by grind[ups]
section
variable {x:SPr}
theorem zAH{φ:PD->Prop}:(∀d∈cps x,φ d)↔(∀i j k,i<j->j<k->k<x.zA.length->φ (pd2 x i j k))/\(∀i j,i<j->j<x.zA.length->φ (pd1 x i j))/\(∀i j,i<j->j<x.zA.length->φ (pd4 x i j))/\ ∀i,i<x.zA.length->φ (pd3 x i):=by
 constructor
 ·intro g
  refine⟨fun i j k h1 h2 h3=>g _ ?_,fun i j h1 h2=>g _ ?_,fun i j h1 h2=>g _ ?_,fun i h1=>g _ ?_⟩
  ·exact U3 _ (Ll.2 ⟨i,by grind,Ll.2 ⟨j,by grind[zEV],Jc.2 ⟨k,zEV.2 ⟨h2,h3⟩,rfl⟩⟩⟩)
  ·exact Hp _ (U3 _ (Ll.2 ⟨i,by grind,Jc.2 ⟨j,zEV.2 ⟨h1,h2⟩,rfl⟩⟩))
  ·exact Hp _ (Hp _ (U3 _ (Ll.2 ⟨i,by grind,Jc.2 ⟨j,zEV.2 ⟨h1,h2⟩,rfl⟩⟩)))
  ·exact Hp _ (by grind)
 ·rintro⟨g2,g1,g4,g3⟩ d hd
  simp only[cps,Ja,Ll,Jc,Lj,zEV]at hd
  grind
theorem zSr{T:Mx}:yAz x D m T↔ ∀d∈cps x,∀t1 t2,d.B x t1 t2->tv m.Prime D m T t1=tv m.Prime D m T t2:=by
 rw[zAH (φ:=fun d=> ∀t1 t2,d.B x t1 t2->tv m.Prime D m T t1=tv m.Prime D m T t2)];constructor
 ·intro g
  exact⟨fun i j k h1 h2 h3=>g.p2 i j k h1 h2 h3,fun i j h1 h2=>g.p1 i j h1 h2,fun i j h1 h2=>g.p4 i j h1 h2,fun i h1=>g.p3 i h1⟩
 ·rintro⟨g2,g1,g4,g3⟩
  exact⟨fun k j h1 h2=>g1 k j h1 h2,fun k i j h1 h2 h3=>g2 k i j h1 h2 h3,fun k hk=>g3 k hk,fun k j h1 h2=>g4 k j h1 h2⟩
theorem yA1(h6:x.zA.length<=6){w:List Nat}(hw:∀a∈w,a<x.zA.length)(h:hdS x w=jf r):r.1<base x.zA.length x.zA.length:=by
 unfold hdS at h;have hb:=wA x.zA.length (by omega)
 match w,h with
 | [],h=>cases h
 | [a],h=>
  grind[swp,pws]
 |a::b::w,h=>
  have ha:=hw a (by simp);simp only[swp]at h
  by_cases g:b<a
  ·rw[if_pos g]at h
   cases h;have:=zAd x.zA.length (by omega) b (by omega);omega
  ·rw[if_neg g]at h
   grind[pws]
theorem yA2(h6:x.zA.length<=6):∀{w:List Nat}{r:zCA},(∀a∈w,a<x.zA.length)->stS x w=jf r->r.1<base x.zA.length x.zA.length
 | [],_,_,h=>by cases h
 |a::w,r,hw,h=>by
  simp only[stS]at h;cases e:hdS x (a::w)with
  |some q=>
   rw[e]at h;cases h;exact yA1 h6 hw e
  |none=>
   rw[e]at h;cases e2:stS x w with
   |none=>grind
   |some q=>
    rw[e2]at h;cases h;have:=yA2 (w:=w) (r:=q) h6 (by grind) e2;exact this
theorem Col.lt(h6:x.zA.length<=6){w:List Nat}{tr:Trc}(hc:Col x k w tr w'):∀q∈tr,q.1<base x.zA.length x.zA.length:=by
 induction hc with
 |refl w=>simp
 |step hw hs _ ih=>
  intro q hq;rcases J9.1 hq with rfl|hq
  ·exact yA2 h6 (by grind) hs
  grind
end
section
variable {x:SPr} (h:Pres x) (h6:x.zA.length<=6)
 include h
theorem zNh{d:PD}{t1 t2 u1 u2:Trc}(hk:d.k<=x.zA.length)(a:d.B x t1 t2)(b:d.B x u1 u2):t1=u1/\t2=u2:=by
 obtain⟨⟨v1,y1,rfl,k1⟩,⟨v2,y2,rfl,k2⟩⟩:=a;obtain⟨⟨v3,y3,rfl,k3⟩,⟨v4,y4,rfl,k4⟩⟩:=b;have nn:=fun(y:Vec)(hy:V (suf x d.k) y)=>zFR h (x.zA.length-d.k) d.k (by omega) y hy
 exact⟨by rw[(Col.det k1.col k3.col (nn _ k1.v) (nn _ k3.v)).1],by rw[(Col.det k2.col k4.col (nn _ k2.v) (nn _ k4.v)).1]⟩
 include h6
theorem zGN:∀d∈cps x,d.k<x.zA.length/\(∀a∈d.wd,a<x.zA.length)/\ ∃t1 t2,d.B x t1 t2/\(∀q∈t1,q.1<base x.zA.length x.zA.length)/\ ∀q∈t2,q.1<base x.zA.length x.zA.length:=by
 have fu:∀i j,i<j->j<x.zA.length-> ∀a∈nw 0 (lcj x i j),i+1<=a/\a<x.zA.length:=fun i j hi hj=>(tA h (uE h hi hj) (by omega)).2
 have fE:∀i,i<x.zA.length-> ∀a∈nw 0 (x.zQ.getD i []),i+1<=a/\a<x.zA.length:=fun i hi=>(tA h (sS h hi) hi).2
 have fx:=wA x.zA.length (by omega);have fw:=fun i(hi:i<x.zA.length)=>zAd x.zA.length (by omega) i hi
 have key:∀(d:PD),d.k<x.zA.length->(∀a∈d.wd,a<x.zA.length)->d.r1<base x.zA.length x.zA.length->d.r2<base x.zA.length x.zA.length->(∀a∈d.w1,d.k<=a/\a<x.zA.length)->(∀a∈d.w2,d.k<=a/\a<x.zA.length)->d.k<x.zA.length/\(∀a∈d.wd,a<x.zA.length)/\ ∃t1 t2,d.B x t1 t2/\(∀q∈t1,q.1<base x.zA.length x.zA.length)/\ ∀q∈t2,q.1<base x.zA.length x.zA.length:=by
  intro d hk mW b1 b2 c1 c2;obtain⟨u1,y1,k1⟩:=zYB h (x.zA.length-d.k) d.k (by omega) d.w1 c1;obtain⟨u2,y2,k2⟩:=zYB h (x.zA.length-d.k) d.k (by omega) d.w2 c2;refine⟨hk,mW,_,_,⟨⟨u1,y1,rfl,k1⟩,⟨u2,y2,rfl,k2⟩⟩,fun q hq=>?_,fun q hq=>?_⟩
  ·rcases J9.1 hq with rfl|hq
   ·exact b1
   ·exact k1.col.lt h6 q hq
  ·rcases J9.1 hq with rfl|hq
   ·exact b2
   ·exact k2.col.lt h6 q hq
 refine zAH.2 ⟨fun i j k h1 h2 h3=>key _ ?_ ?_ ?_ ?_ ?_ ?_,fun i j h1 h2=>key _ ?_ ?_ ?_ ?_ ?_ ?_,fun i j h1 h2=>key _ ?_ ?_ ?_ ?_ ?_ ?_,fun i h1=>key _ ?_ ?_ ?_ ?_ ?_ ?_⟩
 ·show i<_;omega
 ·intro a ha
  simp only[pd2,J9,G9,or_false]at ha;omega
 ·have:=fw j (by omega);show base _ j+(k-(j+1))<_;omega
 ·have:=fw i (by omega);show base _ i+(j-(i+1))<_;omega
 ·intro a ha
  simp only[pd2,J9,Ja,G9,or_false]at ha ⊢
  rcases ha with rfl|ha|rfl
  ·omega
  ·grind
  ·omega
 ·intro a ha
  simp only[pd2,J9]at ha ⊢
  rcases ha with rfl|rfl|ha
  ·omega
  ·omega
  grind
 ·show i<_;omega
 ·intro a ha
  simp only[pd1,Ja,List.mem_singleton]at ha;rcases ha with ha|rfl
  ·grind
  ·omega
 ·show j<_;omega
 ·have:=fw i (by omega);show base _ i+(j-(i+1))<_;omega
 ·intro a ha
  simp only[pd1,Ja,List.mem_singleton]at ha ⊢
  rcases ha with ha|rfl
  ·grind
  ·omega
 ·intro a ha
  simp only[pd1,Ja,J9]at ha ⊢
  rcases ha with ha|rfl|ha
  ·grind
  ·omega
  grind
 ·show i<_;omega
 ·intro a ha
  simp only[pd4,J9]at ha;rcases ha with rfl|ha
  ·omega
  grind
 ·have:=fw i (by omega);show base _ i+(j-(i+1))<_;omega
 ·show i<_;omega
 ·intro a ha
  simp only[pd4,J9,Ja]at ha ⊢
  rcases ha with rfl|ha|ha
  ·omega
  ·grind
  grind
 ·intro a ha
  simp only[pd4,J9]at ha ⊢
  rcases ha with rfl|ha
  ·omega
  grind
 ·exact h1
 ·intro a ha
  have:=H2 (show a∈J1 _ i from ha);omega
 ·show i<_;omega
 ·show i<_;omega
 ·intro a ha
  simp only[pd3,Ja,List.mem_singleton]at ha ⊢
  rcases ha with ha|rfl
  ·grind
  ·omega
 ·intro a ha
  simp only[pd3,J9]at ha ⊢
  rcases ha with rfl|ha
  ·omega
  grind
end
theorem zFS{α:Type}{F:α->Vec}{D:Nat}(hF:∀a,(F a).length=D):∀L:List α,((L.map F).flatten).length=L.length*D
 | []=>by simp
 |a::L=>by rw[Ju,Hr,J5,hF,zFS hF L,J7,K8];omega
theorem zEW{α:Type}{F:α->Vec}{D:Nat}(hF:∀a,(F a).length=D):∀(L:List α)(i j:Nat)(hi:i<L.length),j<D->at0 ((L.map F).flatten) (i*D+j)=at0 (F L[i]) j
 | [],i,j,hi,_=>by simp at hi
 |a::L,i,j,hi,hj=>by
  have hl:=hF a;rw[Ju,Hr];cases i with
  |zero=>
   grind
  |succ i=>
   have ih:=zEW hF L i j (by grind) hj
   grind
def kS(p:Int)(D:Nat)(m:zF)(prs:List (Trc×Trc))(k:Nat):List Int:=(prs.map fun q=>prR p D m q.1 q.2 k).flatten
theorem zIl{p:Int}(prs:List (Trc×Trc)):(kS p D m prs k).length=prs.length*D:=zFS (F:=fun q:Trc×Trc=>prR p D m q.1 q.2 k) (fun _=>zU _ _) prs
theorem zV7{p:Int}(hp:2<=p)(hl:∀q∈prs,(∀r∈q.1,r.1<N)/\ ∀r∈q.2,r.1<N):
  (∀c,c<prs.length*D->(S (N*D) fun k=>at0 y k*ent (gl (N*D) fun k=>kS p D m prs k) k c)%p=0)↔ ∀q∈prs,tv p D m (Tc N D y) q.1=tv p D m (Tc N D y) q.2:=by
 have e:∀i j(hi:i<prs.length),j<D->(S (N*D) fun k=>at0 y k*ent (gl (N*D) fun k=>kS p D m prs k) k (i*D+j))=S (N*D) fun k=>at0 y k*at0 (prR p D m prs[i].1 prs[i].2 k) j:=fun i j hi hj=>by
  refine xV fun k hk=>?_
  show at0 y k*at0 ((gl (N*D) fun k=>kS p D m prs k).getD k []) (i*D+j)=_
  grind[kS,zEW,prR,zU]
 constructor
 ·intro g q hq
  obtain⟨i,hi,rfl⟩:=Ld.1 hq;refine(zRo hp (hl _ hq).1 (hl _ hq).2).1 fun j hj=>?_
  rw[<-e i j hi hj];exact g _ (jO hi hj)
 ·intro g c hc
  have hD:0<D:=by grind
  have hi:c/D<prs.length:=(H6 hD).2 hc;have hj:c%D<D:=Hu _ hD;have hm:=Jp hi;rw[show c=c/D*D+c%D from by grind[Lx],e _ _ hi hj];exact(zRo hp (hl _ hm).1 (hl _ hm).2).2 (g _ hm) _ hj
def qA(x:SPr):List PD->List (Trc×Trc)->Prop
 | [],[]=>True
 |d::ds,q::qs=>d.B x q.1 q.2/\qA x ds qs
 |_,_=>False
theorem qA.len{x:SPr}:{ds:List PD}->{qs:List (Trc×Trc)}->qA x ds qs->ds.length=qs.length
 | [],[],_=>rfl
 |d::ds,q::qs,h=>by rw[J7,J7,qA.len h.2]
 | [],_::_,h=>by simp[qA]at h
 |_::_,[],h=>by simp[qA]at h
theorem qA.all{x:SPr}{φ:Trc×Trc->Prop}:{ds:List PD}->{qs:List (Trc×Trc)}->qA x ds qs->(∀d∈ds,∀t1 t2,d.B x t1 t2->φ (t1,t2))-> ∀q∈qs,φ q
 | [],[],_,_,q,hq=>by cases hq
 |d::ds,q::qs,h,g,r,hr=>by
  rcases J9.1 hr with rfl|hr
  ·exact g d (by simp) _ _ h.1
  ·exact qA.all h.2 (by grind) r hr
 | [],_::_,h,_,_,_=>by simp[qA]at h
 |_::_,[],h,_,_,_=>by grind
theorem qA.of{x:SPr}{φ:Trc×Trc->Prop}:{ds:List PD}->{qs:List (Trc×Trc)}->qA x ds qs->(∀q∈qs,φ q)-> ∀d∈ds,∃t1 t2,d.B x t1 t2/\φ (t1,t2)
 | [],[],_,_,d,hd=>by cases hd
 |d::ds,q::qs,h,g,r,hr=>by
  rcases J9.1 hr with rfl|hr
  ·exact⟨q.1,q.2,h.1,g q (by simp)⟩
  ·exact qA.of h.2 (by grind) r hr
 | [],_::_,h,_,_,_=>by grind
 |_::_,[],h,_,_,_=>by simp[qA]at h
section
variable {x:SPr}{m:zF}{D:Nat} (hx:zAA x) (hD:MOk x.zA.length m D)
 include hx hD
theorem zV8(hq:qA x (cps x) prs)(hc:xC (suf x 0))(hr:zFF x m D)(hy:Row m.Prime (base x.zA.length x.zA.length*D) y):
  (∀c,c<prs.length*D->(S (base x.zA.length x.zA.length*D) fun k=>at0 y k*ent (gl (base x.zA.length x.zA.length*D) fun k=>kS m.Prime D m prs k) k c)%m.Prime=0)↔xC (suf (exx D x m (Tc (base x.zA.length x.zA.length) D y)) 0):=by
 have hp:=hD.p.pos;have ph:=zGN hx.toPres hx.n6;have gC:∀q∈prs,(∀r∈q.1,r.1<base x.zA.length x.zA.length)/\ ∀r∈q.2,r.1<base x.zA.length x.zA.length:=hq.all fun d hd t1 t2 hb=>by
  obtain⟨hk,_,u1,u2,ch,l1,l2⟩:=ph d hd;obtain⟨rfl,rfl⟩:=zNh hx.toPres (by omega) hb ch
  grind
 obtain⟨e1,e2⟩:=zNf hx hD hy;rw[zV7 (by omega) gC,<-zJJ hx.toPres e1 e2 hc hr,zSr];constructor
 ·intro g d hd t1 t2 hb
  obtain⟨u1,u2,ch,e⟩:=hq.of (φ:=fun q=>tv m.Prime D m (Tc (base x.zA.length x.zA.length) D y) q.1=tv m.Prime D m (Tc (base x.zA.length x.zA.length) D y) q.2) g d hd;obtain⟨rfl,rfl⟩:=zNh hx.toPres (by grind) hb ch;exact e
 ·intro g
  exact hq.all (by omega)
theorem yCh:∃prs,qA x (cps x) prs:=by
 have _:=hD;have ph:=zGN hx.toPres hx.n6
 revert ph
 generalize cps x=ds
 intro ph
 induction ds with
 |nil=>exact⟨[],trivial⟩
 |cons d ds ih=>
  obtain⟨qs,hq⟩:=ih (by grind);obtain⟨_,_,t1,t2,hb,_⟩:=ph d (by simp);exact⟨(t1,t2)::qs,hb,hq⟩
end
section
variable {x:SPr}{m:zF}{D:Nat} (hD:MOk x.zA.length m D)
 include hD
theorem zSs(hi:i<N)(hN:N<=21){T:Mx}:zE (zST m (T,(i:Int))) (J1 (N*D*D) (0:Int),0)=jf (mkv (N*D*D) fun j=>if j/D=i*D+j%D then 1 else 0):=by
 have h1:=hD.d1;have h3:=hD.d3;have jb:N*D<=21*3:=Jr hN h3;have hB:N*D*D<=63*3:=Jr jb h3;have:=zO (body:=zST m (T,(i:Int))) (r:=mkv (N*D*D) fun j=>if j/D=i*D+j%D then(1:Int)else 0)
  (fun c=>(mkv (N*D*D) fun j=>if j/D=i*D+j%D/\j%D<c then(1:Int)else 0,(c:Int))) D (fun c hc=>by
  unfold zST;simp only
  have a1:i*D+D<=N*D:=by rw[<-K8];exact Kc _ hi
  have a2:(i*D+c)*D+D<=N*D*D:=by rw[<-K8];exact Kc _ (by omega)
  have b1:(i:Int)*(D:Int)=((i*D:Nat):Int):=by rfl
  have b2:((i*D+c:Nat):Int)*(D:Int)=(((i*D+c)*D:Nat):Int):=by rfl
  have b3:((i*D:Nat):Int)+(c:Int)=((i*D+c:Nat):Int):=by omega
  have b4:(((i*D+c)*D:Nat):Int)+(c:Int)=(((i*D+c)*D+c:Nat):Int):=by omega
  rw[hD.d,yP hc,zH,b1,zB,bs,b3,zB,bs,b2,zB,bs,b4,zB,bs,yA 0 (by grind[zU]),bs,zB,bs,J8,sP,cs]
  congr 3
  refine zX fun j hj=>?_
  have pN:=Lx j D
  by_cases g:j=(i*D+c)*D+c
  ·have e:=sA (q:=i*D+c) hc
   grind
  grind) (by
  unfold zST;simp only
  rw[hD.d,tS,zK]
  congr 2
  refine zX fun j _=>?_
  have:=Hu j (show 0<D by omega);omega)
 rw[show(mkv (N*D*D) fun j=>if j/D=i*D+j%D/\j%D<0 then(1:Int)else 0)=J1 (N*D*D) 0 from by rw[show J1 (N*D*D) (0:Int)=mkv (N*D*D) fun _=>0 from uD _];simp]at this
 exact this
theorem zIm(hN:N<=21):zE (zSU m (N:Int) ((N*D:Nat):Int)) ([],0)=jf (uT N D):=by
 have h1:=hD.d1;have h3:=hD.d3;have jb:N*D<=21*3:=Jr hN h3;have hB:N*D*D<=63*3:=Jr jb h3;refine wI N (fun i=>mkv (N*D*D) fun j=>if j/D=i*D+j%D then(1:Int)else 0) (fun i acc hi ha=>?_) (fun acc=>?_)
 ·unfold zSU
  simp only
  have b1:((N*D:Nat):Int)*(D:Int)=((N*D*D:Nat):Int):=by rfl
  rw[hD.d,yP hi,zH,b1,zB,bs,yI,bs,zSs hD hi hN,bs,zV (by simp;omega),bs,zB,bs,cs]
 ·unfold zSU
  simp
theorem zJK{B:Nat}(hB:B<=63){L:Mx}(hL:L.length<=1000)(hr:∀r∈L,r.length=B*D):zE (zXq m ((B:Nat):Int) L) ([],0)=jf (gl B fun k=>zEU D k L):=by
 have h1:=hD.d1;have h3:=hD.d3;have hLD:L.length*D<=1000*3:=Jr hL h3;have hBD:B*D<=63*3:=Jr hB h3;refine wI B (fun k=>zEU D k L) (fun k acc hk ha=>?_) (fun acc=>?_)
 ·unfold zXq
  simp only
  have a1:k*D+D<=B*D:=by rw[<-K8];exact Kc _ hk
  have inner:zE (zSV m L (acc,(k:Int))) ([],0)=jf (zEU D k L):=by
   have:=zUW (body:=zSV m L (acc,(k:Int))) L.length D (fun i=>blk D (L.getD i []) k) [] (fun i hi=>zU _ _) (fun i acc2 hi ha2=>by
    unfold zSV;simp only
    have b0:i*D+D<=L.length*D:=by rw[<-K8];exact Kc _ hi
    have b1:(k:Int)*(D:Int)=((k*D:Nat):Int):=by rfl
    have b2:((k+1:Nat):Int)*(D:Int)=((k*D+D:Nat):Int):=by grind
    have gf:(L.getD i []).length=B*D:=by grind
    simp only[Jt,Ji]at ha2;rw[hD.d,yP hi,zH,yA [] hi,bs,b1,zB,bs,show(k:Int)+1=((k+1:Nat):Int)from by omega,zB,bs,b2,zB,bs,zFM,bs,zV (by rw[zU];omega),bs,zB,bs,cs];rfl) (fun acc2=>by
    unfold zSV;simp)
   rw[this,K0,zEU]
   congr 2
   rw[gl];refine Gs (by simp) fun j h1 h2=>?_
   grind
  rw[yP hk,zH,inner,bs,zV (by simp;omega),bs,zB,bs,cs]
 ·unfold zXq
  simp
end
section
variable {x:SPr}{m:zF}{D:Nat} (hx:zAA x) (hD:MOk x.zA.length m D)
 include hx hD
theorem zAI(h0:0<x.zA.length)(hc:xC (suf x 0))(hr:zFF x m D):∃K pk,f_n x m=jf K/\Red m.Prime (base x.zA.length x.zA.length*D) K pk/\
  ∀y,Row m.Prime (base x.zA.length x.zA.length*D) y->(Sp m.Prime (base x.zA.length x.zA.length*D) K y↔xC (suf (exx D x m (Tc (base x.zA.length x.zA.length) D y)) 0)):=by
 have h6:=hx.n6;have hb:=wA x.zA.length (by omega);have h1:=hD.d1;have h3:=hD.d3;have hB:base x.zA.length x.zA.length*D<=21*3:=Jr hb.2.1 h3;obtain⟨L,l1,l2,l3,l4⟩:=zV4 hx hD h0 hc hr;have hLD:L.length*D<=1000*3:=Jr l2 h3;obtain⟨K,pk,k1,_,k3,k4⟩:=zFJ hD.p (c:=L.length*D) (N:=base x.zA.length x.zA.length*D) (A:=gl (base x.zA.length x.zA.length*D) fun k=>zEU D k L) (by omega) (fun k hk=>by rw[xJ hk];refine⟨zNg L,fun j hj=>?_⟩;have hi:j/D<L.length:=(H6 (by omega)).2 hj;have hm:j%D<D:=Hu _ (by omega);have e:=zLe (D:=D) (k:=k) L (j/D) (j%D) hi hm;rw[show j/D*D+j%D=j from by grind[Lx]]at e;rw[e];have gG:=l3 (L.getD (j/D) []) (by grind);exact gG.2 _ (jO hk hm)) wL
 refine⟨K,pk,?_,k3,fun y hy=>?_⟩
 ·unfold f_n
  have b1:((base x.zA.length x.zA.length:Nat):Int)*(D:Int)=((base x.zA.length x.zA.length*D:Nat):Int):=by rfl
  rw[zBC rfl h6,bs,hD.d,b1,zB,bs,zIm hD hb.2.1,bs,l1,bs,zJK hD (by omega) l2 (fun r hr=>(l3 r hr).1),bs,show((L.length:Nat):Int)*(D:Int)=((L.length*D:Nat):Int)from by rfl,zB,bs,k1,bs]
 ·rw[k4 y,<-l4 y hy,<-zV5 (L:=L)]
end
theorem tU{w:List Nat}{t:Nat}(h:t<w.length:=by omega):ixO (enW w) (t:Int)=jf (((w.getD t 0:Nat):Int)+1):=by
 rw[yA 0 (by grind)]
 grind
theorem qB{w:List Nat}{t:Nat}(h:t<w.length:=by omega):w.drop t=w.getD t 0::w.drop (t+1):=by grind[Hq]
theorem zDg{w:List Nat}{b:Nat}(h1:a<=b)(h2:b<=w.length:=by omega):zS (enW w) (a:Int) (b:Int)=jf (enW ((w.drop a).take (b-a))):=by
 unfold zS
 simp_all
theorem zV9{w:List Nat}{t o:Nat}{L:Int->Option (Int⊕(Unit⊕Bool))}(hL:L=zPP (enW w) (t:Int) (enW ((w.drop t).take o))\/L=zPQ (enW w) (t:Int) (enW ((w.drop t).take o)))(ht:t<w.length)(ho:t+o<=w.length)(hl:w.length<=1000000):
  zE L 0=jf (if decide ((w.drop t).take o=J1 o (w.getD t 0))then .inl ()else .inr ji):=by
 have gf:((w.drop t).take o).length=o:=by grind
 have aQ:(enW ((w.drop t).take o)).length=o:=by grind
 have fM:∀i,i<o->((w.drop t).take o).getD i 0=w.getD (t+i) 0:=by grind
 have hb:∀i,i<o->L (i:Int)=jf (if(w.getD (t+i) 0==w.getD t 0)then .inl ((i+1:Nat):Int)else .inr (.inr ji)):=fun i hi=>by
  have e1:ixO (enW ((w.drop t).take o)) (i:Int)=jf (((w.getD (t+i) 0:Nat):Int)+1):=by grind[tU]
  have e2:(((w.getD (t+i) 0:Nat):Int)+1 != ((w.getD t 0:Nat):Int)+1)= !(w.getD (t+i) 0==w.getD t 0):=by grind
  rcases hL with rfl|rfl<;>
  ·first|unfold zPP|unfold zPQ
   rw[aQ,yP hi,zH,e1,bs,tU ht,bs,e2]
   by_cases g:(w.getD (t+i) 0==w.getD t 0)=jh
   ·rw[g,Kb,zK,zB,bs,cs];rfl
   grind
 have he:L (o:Int)=jf (.inr (.inl ())):=by
  rcases hL with rfl|rfl
  ·unfold zPP
   grind
  ·unfold zPQ
   grind
 rw[zJ1 o (fun i=>w.getD (t+i) 0==w.getD t 0) (by grind) (fun _=>he)]
 congr 1
 have mh:(Jd o).all (fun i=>w.getD (t+i) 0==w.getD t 0)=decide ((w.drop t).take o=J1 o (w.getD t 0)):=by
  rw[Bool.eq_iff_iff,Kj,decide_eq_true_iff];constructor
  ·intro g
   refine Gs (by grind) fun i h1 h2=>?_
   have:=g i (by grind)
   grind
  grind
 rw[mh]
section
variable {x:SPr} (h:Pres x)
 include h
theorem qO(ha:a<x.zA.length):ixO x.zA (a:Int)=jf ((yD x a:Nat):Int)/\2<=yD x a/\yD x a<=7:=by
 have hp:=(h.os.2 a ha).pos;rw[yA 0 ha]
 grind
theorem zVA{w:List Nat}{t:Nat}(ht:t<w.length):(pws x (w.drop t)).isSome=decide (t+yD x (w.getD t 0)<=w.length/\(w.drop t).take (yD x (w.getD t 0))=J1 (yD x (w.getD t 0)) (w.getD t 0)):=by
 have _:=h;have hd:=qB ht
 by_cases g:(w.drop t).take (yD x (w.getD t 0))=J1 (yD x (w.getD t 0)) (w.getD t 0)
 ·have hl:=zBu g
  rw[Kl]at hl;rw[jk ⟨by omega,g⟩];rw[hd]at g ⊢
  simp only[pws]
  grind
 ·rw[jj fun z=>g z.2]
  rw[hd]at g ⊢
  simp only[pws]
  grind
theorem zIn{w:List Nat}(hw:∀a∈w,a<x.zA.length)(hl:w.length<=1000000){t:Nat}(ht:t<w.length):f_J x (enW w) (t:Int)=jf (hdS x (w.drop t)).isSome:=by
 have ha:w.getD t 0<x.zA.length:=by grind[Jp]
 obtain⟨o1,o2,o3⟩:=qO h ha;have gf:(enW w).length=w.length:=by simp
 have hd:=qB ht;have a1:((w.getD t 0:Nat):Int)+1-1=((w.getD t 0:Nat):Int):=by omega
 have a2:(t:Int)+((yD x (w.getD t 0):Nat):Int)=((t+yD x (w.getD t 0):Nat):Int):=by omega
 have h9:=h.os.1;have fin:∀L:List Int->Int->Option (Int⊕(Unit⊕Bool)),(∀o,L (enW ((w.drop t).take o))=zPP (enW w) (t:Int) (enW ((w.drop t).take o))\/L (enW ((w.drop t).take o))=zPQ (enW w) (t:Int) (enW ((w.drop t).take o)))->
   (cond (decide (((t+yD x (w.getD t 0):Nat):Int)> ((w.length:Nat):Int))) (jf ji) ((jf ((t+yD x (w.getD t 0):Nat):Int)).bind fun v9=>(zS (enW w) (t:Int) v9).bind fun v10=>(zE (L v10) 0).bind fun r14=>match r14 with|(.inl _)=>jf jh|(.inr r14)=>jf r14))=jf (pws x (w.drop t)).isSome:=by
  intro L hL;rw[zVA h ht]
  by_cases g:t+yD x (w.getD t 0)<=w.length
  ·rw[jj (by omega),zK,bs,zDg (by omega) g,bs,H4,zV9 (hL _) ht g hl,bs]
   grind
  grind
 unfold f_J;rw[gf,zB,bs]
 by_cases g:t+1<w.length
 ·have pO:=qB g
  rw[jk,zH,tU ht,bs,bs,show(t:Int)+1=((t+1:Nat):Int)from by omega,tU g,bs]
  by_cases g2:w.getD (t+1) 0<w.getD t 0
  ·rw[jk,zH,hd,pO]
   unfold hdS;simp only[swp]
   grind
  ·rw[jj (by omega),zK,bs,a1,zB,bs,o1,bs,a2,zB,bs]
   refine(fin (fun v=>zPP (enW w) (t:Int) v) fun o=>.inl rfl).trans ?_;have:swp x (w.drop t)=jg:=by rw[hd,pO];simp only[swp];grind
   grind[hdS]
 ·rw[jj (by omega),zK,tU ht,bs,a1,zB,bs,o1,bs,a2,zB,bs]
  refine(fin (fun v=>zPQ (enW w) (t:Int) v) fun o=>.inr rfl).trans ?_
  grind[swp,hdS]
end
def stI(x:SPr):List Nat->Option (Nat×zCA)
 | []=>jg
 |a::w=>match hdS x (a::w)with
  |some r=>jf (0,r)
  |none=>(stI x w).map fun z=>(z.1+1,z.2)
section
variable {x:SPr}
theorem zLf:∀w:List Nat,stS x w=(stI x w).map fun z=>(z.2.1,z.2.2.1,w.take z.1++z.2.2.2)
 | []=>rfl
 |a::w=>by
  simp only[stS,stI];cases hdS x (a::w)with
  |some r=>rfl
  |none=>
   rw[zLf w];cases stI x w with
   |none=>rfl
   |some z=>rfl
theorem zRp:∀{w:List Nat}{z:Nat×zCA},stI x w=jf z->z.1<w.length/\hdS x (w.drop z.1)=jf z.2
 | [],_,h=>by cases h
 |a::w,z,h=>by
  simp only[stI]at h;cases e:hdS x (a::w)with
  |some r=>
   grind
  |none=>
   rw[e]at h;cases e2:stI x w with
   |none=>grind
   |some q=>
    rw[e2]at h;cases h;obtain⟨h1,h2⟩:=zRp e2
    grind
theorem zNi:∀(k i:Nat)(w:List Nat),i+k=w.length->(K7 i k).findSome? (fun j=>if(hdS x (w.drop j)).isSome then jf (j:Int)else jg)=(stI x (w.drop i)).map fun z=>((i+z.1:Nat):Int)
 |0,i,w,h=>by rw[Hl (by omega)];rfl
 |k+1,i,w,h=>by
  rw[Ho,Jae,qB];simp only[stI];cases e:hdS x (w.getD i 0::w.drop (i+1))with
  |some r=>rfl
  |none=>
   simp only[Ue,Hs,if_false];rw[zNi k (i+1) w (by omega)];cases stI x (w.drop (i+1))with
   |none=>rfl
   |some z=>
    grind
section
variable (h:Pres x)
 include h
theorem zBv{w:List Nat}(hw:∀a∈w,a<x.zA.length)(hl:w.length<=1000000):zTf x (enW w)=jf (match stI x w with|some z=>(z.1:Int)|none=> -1):=by
 have gf:(enW w).length=w.length:=by simp
 unfold zTf;have:=zJ0 (body:=zNQ x (enW w)) w.length (fun j=>if(hdS x (w.drop j)).isSome then jf (j:Int)else jg) 0 (Lf _) (fun i _ hi _=>by
  unfold zNQ;rw[gf,yP hi,zH,zIn h hw hl hi,bs];cases hdS x (w.drop i)with
  |some r=>rfl
  |none=>
   simp only[Ue];rw[zK,zB,bs,cs];rfl) (fun _=>by
  unfold zNQ;simp)
 rw[show((0:Nat):Int)=0 from rfl,Nat.sub_zero,zNi w.length 0 w (by omega),Uf]at this;rw[this,bs];cases stI x w with
 |none=>rfl
 |some z=>simp only[He,zMq,Ji]
theorem zIo{v:List Int}(hn:x.zA.length<=6)(hv:yB9 x.zA v):f_C v=jf (enW (nw 0 v))/\(nw 0 v).length<=36:=by
 have hb:∀i,i<v.length->0<=at0 v i/\at0 v i<=6:=fun i hi=>by have h1:=hv.2 i hi;have h2:=(h.os.2 i (by grind)).pos;omega
 have:=zFD 0 v (by grind);have hl:=hv.1
 grind[kR]
theorem zCD(hn:x.zA.length<=6){w:List Nat}(hw:∀a∈w,a<x.zA.length)(hl:w.length<=900000){t:Nat}(ht:t<w.length)(hr:hdS x (w.drop t)=jf r):zSW x (enW w) (t:Int)=jf (enW (w.take t++r.2.2)):=by
 have gp:∀i,i<w.length->w.getD i 0<x.zA.length:=by grind[Jp]
 have ha:=gp t ht;obtain⟨o1,o2,o3⟩:=qO h ha;have gf:(enW w).length=w.length:=by simp
 have hd:=qB ht;have a1:((w.getD t 0:Nat):Int)+1-1=((w.getD t 0:Nat):Int):=by omega
 have a2:(t:Int)+((yD x (w.getD t 0):Nat):Int)=((t+yD x (w.getD t 0):Nat):Int):=by omega
 obtain⟨p1,p2⟩:=zIo h hn (h.tl _ ha).1.1;have h0:zS (enW w) 0 (t:Int)=jf (enW (w.take t)):=by
  have:=zDg (w:=w) (Lf t)
  grind
 have hs:∀q,q<=w.length->zS (enW w) (q:Int) (w.length:Int)=jf (enW (w.drop q)):=fun q hq=>by rw[zDg hq (Je _),Jx (by simp)]
 have pw:swp x (w.drop t)=jg->(rng (((w.getD t 0:Nat):Int)+1-1)).bind (fun v3=>(zS (enW w) 0 (t:Int)).bind fun v4=>(ixO x.zQ v3).bind fun v5=>(f_C v5).bind fun r6=>(ixO x.zA v3).bind fun v7=>(rng ((t:Int)+v7)).bind fun v8=>(zS (enW w) v8 (w.length:Int)).bind fun v9=>(f_t [v4,r6,v9]).bind fun r10=>jf r10)=jf (enW (w.take t++r.2.2)):=fun bY=>by
  unfold hdS at hr;rw[bY]at hr;simp only at hr;rw[hd]at hr;simp only[pws]at hr;split at hr
  ·rename_i g
   have eK:=zBu g;rw[<-hd,Kl]at eK;cases hr;rw[a1,zB,bs,h0,bs,yA [] (by rw[h.pl];exact ha),bs,p1,bs,o1,bs,a2,zB,bs,hs _ (by omega),bs,qQ (by simp) (by simp only[Hr,Uz,J5,Jf,Ke,Kl,Jt,enW];omega),bs]
   simp_all
  ·cases hr
 unfold zSW;rw[gf,zB,bs]
 by_cases g:t+1<w.length
 ·have pO:=qB g
  have hb:=gp _ g;rw[jk,zH,tU ht,bs,bs,show(t:Int)+1=((t+1:Nat):Int)from by omega,tU g,bs]
  by_cases g2:w.getD (t+1) 0<w.getD t 0
  ·rw[hd,pO]at hr
   unfold hdS at hr;simp only[swp]at hr;rw[if_pos g2]at hr;cases hr;have eM:=h.tl _ hb;have tq:=eM.2.2 (w.getD t 0-(w.getD (t+1) 0+1)) (by have:=eM.2.1;omega);obtain⟨q1,q2⟩:=zIo h hn tq.1;have b1:((w.getD (t+1) 0:Nat):Int)+1-1=((w.getD (t+1) 0:Nat):Int):=by omega
   have b2:((w.getD t 0:Nat):Int)-((w.getD (t+1) 0:Nat):Int)-1=((w.getD t 0-(w.getD (t+1) 0+1):Nat):Int):=by omega
   rw[jk,zH,bs,a1,zB,bs,bs,tU g,bs,b1,zB,bs,h0,bs,zB,bs,yA [] (by rw[h.cl];exact hb),bs,zB,bs,b2,zB,bs,yA [] (by have:=eM.2.1;omega),bs,q1,bs,zB,bs,show(t:Int)+2=((t+2:Nat):Int)from by omega,hs _ (by omega),bs,qQ (by simp) (by simp only[Hr,Uz,J5,Jf,Ke,Kl,Jt,J7,enW];omega),bs];simp
  ·rw[jj (by omega),zK,bs]
   exact pw (by rw[hd,pO];simp only[swp];grind)
 ·rw[jj (by omega),zK,tU ht,bs]
  exact pw (by rw[hd,Hl (by omega)];rfl)
end
end
def smx(p:Int)(D N:Nat)(F:Nat->Nat->Nat->Int):List zI:=gl N fun r=>zI.mk p (D:Int) (gl D fun i=>mkv D fun j=>F r i j%p)
def upd(F:Nat->Nat->Nat->Int)(s:Int)(r0:Nat)(A:Mx)(c:Nat):Nat->Nat->Nat->Int:=fun r i j=>F r i j+if r=r0/\i<c then s*ent A i j else 0
theorem zBw{β:Type}{n:Nat}{f g:Nat->β}(h:∀i,i<n->f i=g i):gl n f=gl n g:=by simp_all
section
variable {x:SPr}{m:zF}{D N:Nat}{s:Int}{r0:Nat}{A:Mx}{T0:List zI}
theorem zJL(hp:Prime m.Prime)(hD:D<=3)(_hN:N<=100)(hs:-7<=s/\s<=7)(hr:r0<N)(hA:Mat m.Prime D A){F:Nat->Nat->Nat->Int}{L:(List zI)×Int->Option (((List zI)×Int)⊕(List zI))}
  (hL:L=zXr ⟨x,m,T0⟩ s (r0:Int) (zI.mk m.Prime (D:Int) A)\/L=zXs ⟨x,m,T0⟩ s (r0:Int) (zI.mk m.Prime (D:Int) A)\/L=zXt ⟨x,m,T0⟩ s (r0:Int) (zI.mk m.Prime (D:Int) A)):
  zE L (smx m.Prime D N F,0)=jf (smx m.Prime D N (upd F s r0 A D)):=by
 have mc:=hp.pos;have bM:=hA.1;have gA:∀c,c<D-> ∀(k:Nat),(c:Int)+1=(k:Int)->((ixO A (c:Int)).bind fun v10=>(ixO (smx m.Prime D N (upd F s r0 A c)) (r0:Int)).bind fun v11=>(ixO v11.Rows (c:Int)).bind fun v12=>(f_A v12 v10 s m.Prime).bind fun r13=>(rng ((c:Int)+1)).bind fun v14=>
   (jf (.inl ((smx m.Prime D N (upd F s r0 A c)).set (r0:Int).toNat (zI.mk v11.Prime v11.xF (v11.Rows.set (c:Int).toNat r13)),v14)):Option (((List zI)×Int)⊕(List zI))))=jf (.inl (smx m.Prime D N (upd F s r0 A (c+1)),((c+1:Nat):Int))):=fun c hc k _=>by
  have gG:Row m.Prime D (mkv D fun j=>upd F s r0 A c r0 c j%m.Prime):=⟨zU _ _,fun j hj=>by rw[zW hj];exact⟨Kk _ (by omega),by have:=Kh (upd F s r0 A c r0 c j) (show 0<m.Prime by omega);omega⟩⟩
  rw[yA [],bs,smx,zAD hr,bs];simp only
  rw[zAD hc,bs,zBq hp gG (hA.2 c hc) hs (by omega),bs,zB,bs,J8,J8,zDV,zDV,cs]
  congr 3
  refine zBw fun r _=>?_
  by_cases g:r=r0
  ·rw[if_pos g,g]
   congr 1
   refine zBw fun i _=>?_
   by_cases g2:i=c
   ·rw[if_pos g2,g2,uR]
    refine zX fun j hj=>?_
    rw[zW hj,upd,upd,if_neg (by simp),if_pos (by simp),L9];simp
   ·rw[if_neg g2]
    refine zX fun j hj=>?_
    rw[upd,upd]
    grind
  ·rw[if_neg g]
   congr 1
   refine zBw fun i _=>zX fun j _=>?_
   rw[upd,upd,if_neg (fun z=>g z.1),if_neg (fun z=>g z.1)]
 have:=zO (body:=L) (r:=smx m.Prime D N (upd F s r0 A D)) (fun c=>(smx m.Prime D N (upd F s r0 A c),(c:Int))) D (fun c hc=>by
  rcases hL with rfl|rfl|rfl
  ·unfold zXr
   grind
  ·unfold zXs
   grind
  ·unfold zXt
   grind) (by
  rcases hL with rfl|rfl|rfl
  ·unfold zXr
   grind
  ·unfold zXs
   grind
  ·unfold zXt
   grind)
 rw[show smx m.Prime D N (upd F s r0 A 0)=smx m.Prime D N F from zBw fun r _=>by
  congr 1
  refine zBw fun i _=>zX fun j _=>?_
  rw[upd,if_neg (by simp),L9]]at this
 exact this
end
theorem zVB:∀n:Nat,n<7-> ∀j:Nat,j<n-> ∀i:Nat,i<j->((rng ((n:Int)-1)).bind fun v10=>(rng ((i:Int)*v10)).bind fun v11=>(rng ((n:Int)+v11)).bind fun v12=>(rng ((i:Int)-1)).bind fun v13=>(rng ((i:Int)*v13)).bind fun v14=>(vN v14 2).bind fun v15=>(rng (v12-v15)).bind fun v16=>(rng (v16+(j:Int))).bind fun v17=>(rng (v17-(i:Int))).bind fun v18=>(rng (v18-1)).bind fun v19=>jf v19)=jf ((base n i+(j-(i+1)):Nat):Int):=by decide+kernel
section
variable {x:SPr}{m:zF}{D:Nat}{T0:List zI} (h:Pres x) (hn:x.zA.length<=6) (hD:MOk x.zA.length m D)
 include h hn
theorem zG1{w:List Nat}(hw:∀a∈w,a<x.zA.length)(hl:w.length<=900000){t:Nat}(ht:t<w.length)(hr:hdS x (w.drop t)=jf r):zZr ⟨x,m,T0⟩ (enW w) (t:Int)=jf (r.1:Int):=by
 have _:=h;have gp:∀i,i<w.length->w.getD i 0<x.zA.length:=by grind[Jp]
 have ha:=gp t ht;have gf:(enW w).length=w.length:=by simp
 have hd:=qB ht;have a1:((w.getD t 0:Nat):Int)+1-1=((w.getD t 0:Nat):Int):=by omega
 have pw:swp x (w.drop t)=jg->(rng (((w.getD t 0:Nat):Int)+1-1)).bind (fun v3=>jf v3)=jf (r.1:Int):=by grind[hdS,pws,zB]
 unfold zZr;rw[gf,zB,bs]
 by_cases g:t+1<w.length
 ·have pO:=qB g
  have hb:=gp _ g;rw[jk,zH,tU ht,bs,bs,show(t:Int)+1=((t+1:Nat):Int)from by omega,tU g,bs]
  by_cases g2:w.getD (t+1) 0<w.getD t 0
  ·rw[hd,pO]at hr
   unfold hdS at hr;simp only[swp]at hr;rw[if_pos g2]at hr;cases hr;have b1:((w.getD (t+1) 0:Nat):Int)+1-1=((w.getD (t+1) 0:Nat):Int):=by omega
   rw[jk,zH,bs,a1,zB (n:=((w.getD t 0:Nat):Int)),bs,bs,tU g,bs,b1,zB (n:=((w.getD (t+1) 0:Nat):Int)),bs]
   grind[zVB]
  ·rw[jj (by omega),zK,bs]
   exact pw (by rw[hd,pO];simp only[swp];grind)
 ·rw[jj (by omega),zK,tU ht,bs]
  exact pw (by rw[hd,Hl (by omega)];rfl)
 include hD
theorem zFT{w:List Nat}(hw:∀a∈w,a<x.zA.length)(hl:w.length<=60000){t:Nat}(ht:t<w.length)(hr:hdS x (w.drop t)=jf r){s:Int}(hs:-7<=s/\s<=7){F:Nat->Nat->Nat->Int}:
  f_r ⟨x,m,smx m.Prime D (base x.zA.length x.zA.length) F⟩ (enW w) (t:Int) s=jf (enW (w.take t++r.2.2),⟨x,m,smx m.Prime D (base x.zA.length x.zA.length) (upd F s r.1 (wM m.Prime D m.zM r.2.1 (idM D)) D)⟩):=by
 have hp:=hD.p.pos;have h3:=hD.d3;have fx:=wA x.zA.length (by omega);have gp:∀i,i<w.length->w.getD i 0<x.zA.length:=by grind[Jp]
 have ha:=gp t ht;obtain⟨o1,o2,o3⟩:=qO h ha;have gf:(enW w).length=w.length:=by simp
 have hd:=qB ht;have a1:((w.getD t 0:Nat):Int)+1-1=((w.getD t 0:Nat):Int):=by omega
 have a2:(t:Int)+((yD x (w.getD t 0):Nat):Int)=((t+yD x (w.getD t 0):Nat):Int):=by omega
 have hr0:=yA1 hn (by grind) hr;have hA:∀z,Mat m.Prime D (wM m.Prime D m.zM z (idM D)):=by grind[zHL,tL]
 have gF:∀q,q<=w.length->zS (enW w) (q:Int) (w.length:Int)=jf (enW (w.drop q)):=fun q hq=>by rw[zDg hq (Je _),Jx (by simp)]
 have df:∀q,q<=w.length->zPB m (enW (w.drop q))=jf (zI.mk m.Prime (D:Int) (wM m.Prime D m.zM (w.drop q) (idM D))):=fun q hq=>
  zII hD (by omega) (by grind) (by grind)
 have pw:swp x (w.drop t)=jg->r.2.1=w.drop (t+yD x (w.getD t 0))/\t+yD x (w.getD t 0)<=w.length:=fun bY=>by
  unfold hdS at hr;rw[bY]at hr;simp only at hr;rw[hd]at hr;simp only[pws]at hr;split at hr
  ·rename_i g
   have eK:=zBu g
   grind[List.drop_drop]
  ·cases hr
 unfold f_r;rw[zG1 h hn hw (by omega) ht hr,bs,zCD h hn hw (by omega) ht hr,bs,gf,zB,bs]
 by_cases g:t+1<w.length
 ·have pO:=qB g
  have hb:=gp _ g;rw[jj (by omega),zK,tU ht,bs,bs,show(t:Int)+1=((t+1:Nat):Int)from by omega,tU g,bs]
  by_cases g2:w.getD (t+1) 0<w.getD t 0
  ·rw[hd,pO]at hr
   unfold hdS at hr;simp only[swp]at hr;rw[if_pos g2]at hr;cases hr;rw[jj (by omega),zK,zB,bs,show(t:Int)+2=((t+2:Nat):Int)from by omega,gF _ (by omega),bs,df _ (by omega),bs,zJL hD.p h3 (by omega) hs hr0 (hA _) (.inr (.inr rfl)),bs]
  ·obtain⟨e1,e2⟩:=pw (by rw[hd,pO];simp only[swp];grind)
   rw[jk,zH,bs,a1,zB,bs,o1,bs,a2,zB,bs,gF _ e2,bs,df _ e2,bs,zJL hD.p h3 (by omega) hs hr0 (hA _) (.inr (.inl rfl)),bs,e1]
 ·obtain⟨e1,e2⟩:=pw (by rw[hd,Hl (by omega)];rfl)
  omega
end
inductive Cb (x:SPr) (M:Nat):List Nat->Trc->List Nat->Prop where
 |refl (w:List Nat) (hl:w.length<=M) (hw:∀a∈w,a<x.zA.length):Cb x M w [] w
 |step {w w1 w' s:List Nat}{r:Nat}{tr:Trc} (hl:w.length<=M) (hw:∀a∈w,a<x.zA.length) (hs:stS x w=jf (r,s,w1)) (h:Cb x M w1 tr w'):Cb x M w ((r,s)::tr) w'
theorem Cb.st{M:Nat}{w:List Nat}{tr:Trc}(h:Cb x M w tr w'):w.length<=M/\ ∀a∈w,a<x.zA.length:=by
 cases h with
 |refl _ hl hw=>grind
 |step hl hw _ _=>grind
def zDo(m:zF)(D:Nat)(s:Int):(Nat->Nat->Nat->Int)->Trc->Nat->Nat->Nat->Int
 |F,[]=>F
 |F,(r,z)::tr=>zDo m D s (upd F s r (wM m.Prime D m.zM z (idM D)) D) tr
theorem zRq{m:zF}{D:Nat}{s:Int}{r i j:Nat}(hi:i<D):∀(tr:Trc)(F:Nat->Nat->Nat->Int),zDo m D s F tr r i j=F r i j+s*zAT m.Prime D m tr r i j
 | [],F=>by rw[zDo,zAT,Lo,L9]
 |(q,z)::tr,F=>by
  rw[zDo,zRq hi tr,upd,zAT,Jak,Int.add_assoc]
  grind
abbrev zVC(x:SPr)(w:List Nat):Int:=match stI x w with
 |some z=>(z.1:Int)
 |none=> -1
section
variable {x:SPr}{m:zF}{D:Nat} (h:Pres x) (hn:x.zA.length<=6) (hD:MOk x.zA.length m D)
 include h hn hD
theorem zLg{s:Int}(hs:-7<=s/\s<=7){w:List Nat}{tr:Trc}(hc:Cb x 60000 w tr w')(ek:stS x w'=jg):∀F:Nat->Nat->Nat->Int,
  zE (zXu s) (x,m,smx m.Prime D (base x.zA.length x.zA.length) F,enW w,zVC x w)=jf (x,m,smx m.Prime D (base x.zA.length x.zA.length) (zDo m D s F tr)):=by
 induction hc with
 |refl w hl hw=>
  intro F;have e:zVC x w= -1:=by
   rw[zLf]at ek
   grind
  rw[yQ,e];rfl
 |step hl hw gA hc ih=>
  rename_i w w1 w2 z r tr;intro F;rw[zLf]at gA;cases g:stI x w with
  |none=>grind
  |some q=>
   rw[g]at gA;obtain⟨t,q⟩:=q;simp only[He,Hm.injEq,Jah.injEq]at gA;obtain⟨e1,e2,e3⟩:=gA;obtain⟨ht,hh⟩:=zRp g;simp only at ht hh;have pQ:=hc.st;have e:zVC x w=(t:Int):=by grind
   have h1:=zFT h hn hD hw hl ht hh hs (F:=F);rw[e3,e1,e2]at h1;have h2:=zBv h pQ.2 (by omega);rw[yQ,e];have hb:zXu s (x,m,smx m.Prime D (base x.zA.length x.zA.length) F,enW w,(t:Int))=jf (.inl (x,m,smx m.Prime D (base x.zA.length x.zA.length) (upd F s r (wM m.Prime D m.zM z (idM D)) D),enW w1,zVC x w1)):=by
    unfold zXu
    grind
   rw[hb];simp only
   exact ih ek _
theorem zEX{s:Int}(hs:-7<=s/\s<=7){w:List Nat}{tr:Trc}(hc:Cb x 60000 w tr w')(ek:stS x w'=jg)(F:Nat->Nat->Nat->Int):
  f_L ⟨x,m,smx m.Prime D (base x.zA.length x.zA.length) F⟩ (enW w) s=jf ⟨x,m,smx m.Prime D (base x.zA.length x.zA.length) (zDo m D s F tr)⟩:=by
 have pQ:=hc.st;unfold f_L;rw[show zTf (yY.p ⟨x,m,smx m.Prime D (base x.zA.length x.zA.length) F⟩) (enW w)=jf (zVC x w)from by grind[zBv],bs];have:=zLg h hn hD hs hc ek F
 grind
end
inductive Cl (x:SPr) (k M:Nat):List Nat->Trc->List Nat->Prop where
 |refl (w:List Nat) (hl:w.length<=M) (hw:∀a∈w,k<=a/\a<x.zA.length):Cl x k M w [] w
 |step {w w1 w' s:List Nat}{r:Nat}{tr:Trc} (hl:w.length<=M) (hw:∀a∈w,k<=a/\a<x.zA.length) (hs:stS x w=jf (r,s,w1)) (h:Cl x k M w1 tr w'):Cl x k M w ((r,s)::tr) w'
theorem Cl.trans{M:Nat}{w w1 w2:List Nat}{t1 t2:Trc}(h:Cl x k M w t1 w1)(h2:Cl x k M w1 t2 w2):Cl x k M w (t1++t2) w2:=by
 induction h with
 |refl w=>exact h2
 |step hl hw hs _ ih=>exact .step hl hw hs (ih h2)
theorem Cl.mono{M M2:Nat}(hM:M<=M2){w:List Nat}{tr:Trc}(h:Cl x k M w tr w'):Cl x k M2 w tr w':=by
 induction h with
 |refl w hl hw=>exact .refl _ (by omega) hw
 |step hl hw hs _ ih=>exact .step (by omega) hw hs ih
theorem Cl.cb{M:Nat}{w:List Nat}{tr:Trc}(h:Cl x k M w tr w'):Cb x M w tr w':=by
 induction h with
 |refl w hl hw=>exact .refl _ hl (by grind)
 |step hl hw hs _ ih=>exact .step hl (by grind) hs ih
theorem Cl.col{M:Nat}{w:List Nat}{tr:Trc}(h:Cl x k M w tr w'):Col x k w tr w':=by
 induction h with
 |refl w hl hw=>exact .refl _
 |step hl hw hs _ ih=>exact .step hw hs ih
section
variable {x:SPr} (h:Pres x)
 include h
theorem zRr:∀(d k:Nat),k+d=x.zA.length-> ∀y,V (suf x k) y->(nw k y).length<=6*d
 |0,k,hk,y,hy=>by
  rw[vO (x:=x) (k:=k)]at hy;cases y with
  |nil=>simp[nw]
  |cons b y=>cases hy
 |d+1,k,hk,y,hy=>by
  have hp:=(h.os.2 k (by omega)).pos;rw[zY (x:=x)]at hy;cases y with
  |nil=>exact hy.elim
  |cons b y=>
   obtain⟨⟨h1,h2⟩,h3⟩:=hy;have ih:=zRr d (k+1) (by omega) y h3;have fO:b<at0 x.zA k:=h2
   grind[nw]
theorem Cl.ctx{M:Nat}(hi:i<x.zA.length)(ha:a<yD x i){s:List Nat}(hs:∀b∈s,i<=b/\b<x.zA.length){w:List Nat}{tr:Trc}(hc:Cl x (i+1) M w tr w'):
  Cl x i (a+M+s.length) (J1 a i++(w++s)) (tr.map fun q=>(q.1,q.2++s)) (J1 a i++(w'++s)):=by
 have mem:∀{w:List Nat},(∀b∈w,i+1<=b/\b<x.zA.length)-> ∀b∈J1 a i++(w++s),i<=b/\b<x.zA.length:=by grind
 induction hc with
 |refl w hl hw=>exact .refl _ (by simp;omega) (mem hw)
 | @step w w1 w' s1 r tr hl hw gA _ ih=>
  refine .step (by simp;omega) (mem hw) ?_ ih;rw[zDZ ha a (Je _) fun b hb=>?_,zKU (by grind[zMZ]) gA]
  ·rfl
  ·cases w with
   |nil=>cases gA
   |cons c w=>
    simp only[K9,Jb8,Hm.injEq]at hb;have:=hw c (by simp);omega
theorem zLh(hn:x.zA.length<=6)(hi:i<j)(hj:j<x.zA.length):(nw 0 (lcj x i j)).length<=36:=(zIo h hn (uE h hi hj).1).2
theorem zRs(hn:x.zA.length<=6){i:Nat}:∀{ur:List Nat},(∀b∈ur,i+1<=b/\b<x.zA.length)->(cwd x i ur).length<=36*ur.length
 | [],_=>by simp[cwd]
 |l::ur,hu=>by
  have h1:=hu l (by simp);have h2:=zLh h hn (show i<l by omega) h1.2;have ih:=zRs hn (ur:=ur) fun b hb=>hu b (by simp[hb])
  grind[cwd]
theorem Cl.move(hn6:x.zA.length<=6){i a:Nat}(hi:i<x.zA.length)(ha:a<yD x i):∀{ur:List Nat},(∀b∈ur,i+1<=b/\b<x.zA.length)->stS x ur.reverse=jg-> ∀{z:List Nat},(∀b∈z,i<=b/\b<x.zA.length)->
  Cl x i (a+1+37*ur.length+z.length) (J1 a i++(ur.reverse++i::z)) (mtr x i ur z) (J1 (a+1) i++(cwd x i ur++z))
 | [],_,_,z,hz=>by
  have e:J1 a i++(([]:List Nat).reverse++i::z)=J1 (a+1) i++(cwd x i []++z):=by grind[Lw,cwd]
  rw[e];refine .refl _ (by simp[cwd]) fun b hb=>?_
  grind
 |l::ur,hu,hn,z,hz=>by
  obtain⟨l1,l2⟩:=hu l (by simp);have p7:∀b∈ur,i+1<=b/\b<x.zA.length:=by grind
  have cU:=tA h (uE h (show i<l by omega) l2) hi;have pf:=zLh h hn6 (show i<l by omega) l2;rw[G8]at hn ⊢
  have bg:=zGn (by grind[zMZ]) hn;have eW:∀b∈nw 0 (lcj x i l)++z,i<=b/\b<x.zA.length:=by grind
  have ih:=(Cl.move hn6 hi ha p7 bg eW).mono (M2:=a+1+37*(l::ur).length+z.length) (by grind);rw[show cwd x i (l::ur)++z=cwd x i ur++(nw 0 (lcj x i l)++z)from by simp[cwd]];have e1:ur.reverse++[l]++i::z=ur.reverse++l::i::z:=by simp
  rw[e1];refine .step (by simp;omega) (fun b hb=>?_) ?_ ih
  ·simp only[Ja,J9,List.mem_reverse]at hb
   rcases hb with hb|hb|hb|hb|hb
   ·grind
   ·grind
   ·omega
   all_goals grind
  ·rw[zDZ ha a (Je _) fun b hb=>?_,zVq (by grind) (by omega) hn]
   ·rfl
   ·have:b∈ur.reverse++l::i::z:=by grind[Ja5]
    cases e:ur.reverse with
    |nil=>grind
    |cons c t=>
     rw[e]at hb;simp only[K9,Jb8,Hm.injEq]at hb
     grind
end
section
variable {x:SPr} (h:Pres x) (hn:x.zA.length<=6)
 include h hn
theorem zLi{k M W L:Nat}(hk:k<x.zA.length)(P:∀v:List Nat,v.length<=W->(∀a∈v,k+1<=a/\a<x.zA.length)-> ∃tr y,Cl x (k+1) M v tr (nw (k+1) y)/\V (suf x (k+1)) y):∀(z:List Nat),z.length<=L->(∀a∈z,k<=a/\a<x.zA.length)-> ∀(a:Nat),a<yD x k-> ∀(v:List Nat),v.length+z.length<=W->1400+z.length<=W->(∀a∈v,k+1<=a/\a<x.zA.length)->
  ∃tr y,Cl x k (M+L+1500) (J1 a k++(v++z)) tr (nw k y)/\V (suf x k) y
 | [],_,_,a,ha,v,fT,_,hv=>by
  obtain⟨tr,y,c1,c2⟩:=P v (by omega) hv;have ho:=(qO h hk).2.2;have hc:=(Cl.ctx h hk ha (s:=[]) (by simp) c1).mono (M2:=M+L+1500) (by simp;omega);rw[show(fun q:Nat×List Nat=>(q.1,q.2++[]))=id from by grind,List.map_id,Jh,Jh]at hc;refine⟨tr,(a:Int)::y,?_,?_⟩
  ·grind[nw]
  ·rw[zY hk]
   refine⟨⟨by omega,?_⟩,c2⟩;show(a:Int)<at0 x.zA k
   grind
 |l::z,ck,hz,a,ha,v,fT,hW,hv=>by
  have ho:=(qO h hk).2.2;have hzl2:z.length+1<=L:=by omega
  have dQ:v.length+(z.length+1)<=W:=by omega
  have hW2:1400+(z.length+1)<=W:=by omega
  have eW:∀b∈z,k<=b/\b<x.zA.length:=by grind
  obtain⟨l1,l2⟩:=hz l (by simp);rcases Jo k l with g|g
  ·obtain⟨tr,y,c1,c2⟩:=zLi (L:=L) hk P z (by omega) eW a ha (v++[l]) (by simp;omega) (by omega) (by grind)
   grind
  ·obtain rfl:l=k:=by omega
   obtain⟨tr1,y1,c1,c2⟩:=P v (by omega) hv;have gK:=zRg h (by omega) c2;have pM:∀b∈(nw (l+1) y1).reverse,l+1<=b/\b<x.zA.length:=by grind
   have eE:(nw (l+1) y1).length<=36:=by have:=zRr h (x.zA.length-(l+1)) (l+1) (by omega) y1 c2;omega
   have gy:(cwd x l (nw (l+1) y1).reverse).length<=1296:=by grind[zRs]
   have k1:=(Cl.ctx h hk ha (s:=l::z) hz c1).mono (M2:=M+L+1500) (by simp;omega);have k2:=(Cl.move h hn hk ha pM (by rw[Ki];exact zFR h _ _ (by omega:l+1+(x.zA.length-(l+1))=x.zA.length) y1 c2) eW).mono (M2:=M+L+1500) (by grind);rw[Ki]at k2;have m9:=zKX h pM;rcases Jo (a+1) (yD x l)with g2|g2
   ·obtain⟨tr2,y2,d1,d2⟩:=zLi (L:=L) hk P z (by omega) eW (a+1) g2 (cwd x l (nw (l+1) y1).reverse) (by omega) (by omega) m9
    exact⟨_,y2,k1.trans (k2.trans d1),d2⟩
   ·have g4:a+1=yD x l:=by omega
    have pZ:=sS h hk;have m6:=tA h pZ hk;have pd:=(zIo h hn pZ.1).2;have dp:∀b∈nw 0 (x.zQ.getD l [])++cwd x l (nw (l+1) y1).reverse,l+1<=b/\b<x.zA.length:=fun b hb=>by
     simp only[Ja]at hb;rcases hb with hb|hb
     ·grind
     grind
    obtain⟨tr2,y2,d1,d2⟩:=zLi (L:=L) hk P z (by omega) eW 0 (by omega) _ (by grind) (by omega) dp;rw[H0,K0,Jg]at d1;have k3:Cl x l (M+L+1500) (J1 (a+1) l++(cwd x l (nw (l+1) y1).reverse++z)) ((l,cwd x l (nw (l+1) y1).reverse++z)::tr2) (nw l y2):=by
     refine .step (by grind[J5,Jl]) (fun b hb=>?_) (by grind[yAs,zMZ]) d1;simp only[Ja]at hb;rcases hb with hb|hb|hb
     ·grind
     ·grind
     grind
    exact⟨_,y2,k1.trans (k2.trans k3),d2⟩
def lnB:Nat->Nat->Nat
 |0,l=>l
 |d+1,l=>lnB d (l+1400)+l+1500
theorem yA3:∀(d k:Nat),k+d=x.zA.length-> ∀(L:Nat)(z:List Nat),z.length<=L->(∀a∈z,k<=a/\a<x.zA.length)-> ∃tr y,Cl x k (lnB d L) z tr (nw k y)/\V (suf x k) y
 |0,k,hk,L,z,_,hz=>by
  have:z=[]:=by
   cases z with
   |nil=>rfl
   |cons a z=>have:=hz a (by simp);omega
  subst this;exact⟨[],[],.refl _ (by simp) (by simp),by rw[vO (x:=x) (k:=k)];rfl⟩
 |d+1,k,hk,L,z,hl,hz=>by
  have ho:=zMZ h (show k<x.zA.length by omega);obtain⟨tr,y,c1,c2⟩:=zLi h hn (M:=lnB d (L+1400)) (W:=L+1400) (L:=L) (by omega) (fun v hv hvm=>yA3 d (k+1) (by omega) (L+1400) v hv hvm) z hl hz 0 (by omega) [] (by simp;omega) (by omega) (by simp)
  grind[lnB]
theorem zRt{L:Nat}(hk:k<=x.zA.length){z:List Nat}(hl:z.length<=L){tr:Trc}(hc:tT x k z tr y)(hz:∀a∈z,k<=a/\a<x.zA.length):Cb x (lnB (x.zA.length-k) L) z tr (nw k y)/\stS x (nw k y)=jg:=by obtain⟨tr2,y2,c1,c2⟩:=yA3 h hn (x.zA.length-k) k (by omega) L z hl hz;have n1:=zFR h (x.zA.length-k) k (by omega) y hc.v;have n2:=zFR h (x.zA.length-k) k (by omega) y2 c2;obtain⟨e1,e2⟩:=Col.det hc.col c1.col n1 n2;rw[e1,e2];exact⟨c1.cb,n2⟩
end
theorem yCi:∀d:Nat,d<7->lnB d 100<=60000:=by decide
structure PD.Ok (x:SPr) (d:PD):Prop where
 h1:hdS x (d.wd.drop 0)=jf (d.r1,d.s1,d.w1)
 ht:d.t<d.wd.length
 h2:∃q,hdS x (d.wd.drop d.t)=jf (d.r2,d.s2,q)/\d.w2=d.wd.take d.t++q
 l:d.wd.length<=14
 l1:d.w1.length<=100
 l2:d.w2.length<=100
 m1:∀a∈d.w1,d.k<=a/\a<x.zA.length
 m2:∀a∈d.w2,d.k<=a/\a<x.zA.length
section
variable {x:SPr} (h:Pres x) (hn:x.zA.length<=6)
 include h hn
theorem zRu{b:Nat}{s:List Nat}(fC:b<a):hdS x (a::b::s)=jf (base x.zA.length b+(a-(b+1)),s,b::(nw 0 (lcj x b a)++s)):=by
 have _:=h;have _:=hn;unfold hdS;simp only[swp]
 grind
theorem zRv{s:List Nat}(ha:a<x.zA.length):hdS x (J1 (yD x a) a++s)=jf (a,s,nw 0 (x.zQ.getD a [])++s):=by
 have _:=hn;obtain⟨q,hq⟩:∃q,yD x a=q+2:=⟨yD x a-2,by have:=(qO h ha).2.1;omega⟩;have e:swp x (J1 (yD x a) a++s)=jg:=by rw[hq,Jv,Jv];simp only[K9,swp];simp
 unfold hdS;rw[e];have e2:J1 (yD x a) a++s=a::(J1 (q+1) a++s):=by grind
 have e3:(J1 (yD x a) a++s).take (yD x a)=J1 (yD x a) a:=by simp
 have e4:(J1 (yD x a) a++s).drop (yD x a)=s:=by simp
 rw[e2]at e3 e4;rw[e2];simp only[pws]
 grind
theorem zLj:∀d∈cps x,d.Ok x:=by
 have fu:∀i j,i<j->j<x.zA.length-> ∀a∈nw 0 (lcj x i j),i+1<=a/\a<x.zA.length:=fun i j hi hj=>(tA h (uE h hi hj) (by omega)).2
 have fE:∀i,i<x.zA.length-> ∀a∈nw 0 (x.zQ.getD i []),i+1<=a/\a<x.zA.length:=fun i hi=>(tA h (sS h hi) hi).2
 have lcon:∀i j,i<j->j<x.zA.length->(nw 0 (lcj x i j)).length<=36:=fun i j hi hj=>zLh h hn hi hj
 have lpow:∀i,i<x.zA.length->(nw 0 (x.zQ.getD i [])).length<=36:=fun i hi=>(zIo h hn (sS h hi).1).2
 have od:∀i,i<x.zA.length->2<=yD x i/\yD x i<=7:=fun i hi=>(qO h hi).2
 refine zAH.2 ⟨fun i j k h1 h2 h3=>?_,fun i j h1 h2=>?_,fun i j h1 h2=>?_,fun i h1=>?_⟩
 ·have c1:=lcon j k h2 h3
  have c2:=lcon i j h1 (by omega);refine⟨zRu h hn h2,by simp[pd2],⟨i::(nw 0 (lcj x i j)++[]),zRu h hn h1,by simp[pd2]⟩,by simp[pd2],by simp only[pd2,J7,J5,Jt];omega,by simp only[pd2,J7];omega,fun a ha=>?_,fun a ha=>?_⟩
  ·simp only[pd2,J9,Ja,G9,or_false]at ha ⊢
   rcases ha with rfl|ha|rfl
   ·omega
   ·have:=fu j k (by omega) h3 a ha;omega
   ·omega
  ·simp only[pd2,J9]at ha ⊢
   rcases ha with rfl|rfl|ha
   ·omega
   ·omega
   ·have:=fu i j (by omega) (by omega) a ha;omega
 ·have c1:=lpow j h2
  have c2:=lcon i j h1 h2;have o:=od j h2;have e:J1 (yD x j) j++[i]=J1 (yD x j-1) j++[j,i]:=by obtain⟨q,hq⟩:∃q,yD x j=q+1:=⟨yD x j-1,by omega⟩;rw[hq,Lw,Jaw,Jg];rfl
  refine⟨zRv h hn h2,by simp only[pd1,J5,Jl,J7,Jt];omega,⟨i::(nw 0 (lcj x i j)++[]),?_,?_⟩,by simp only[pd1,J5,Jl,J7,Jt];omega,by simp only[pd1,J7,J5,Jt];omega,by simp only[pd1,J5,Jl,J7];omega,fun a ha=>?_,fun a ha=>?_⟩
  ·show hdS x ((J1 (yD x j) j++[i]).drop (yD x j-1))=_
   rw[e,K1 (Jl)];exact zRu h hn h1
  ·show _=(J1 (yD x j) j++[i]).take (yD x j-1)++_
   rw[e,Js (Jl),Jh];rfl
  ·simp only[pd1,Ja,List.mem_singleton]at ha ⊢
   rcases ha with ha|rfl
   ·have:=fE j h2 a ha;omega
   ·omega
  ·simp only[pd1,Ja,J9]at ha ⊢
   rcases ha with ha|rfl|ha
   ·have:=H2 ha;omega
   ·omega
   ·have:=fu i j h1 h2 a ha;omega
 ·have c1:=lpow i (by omega)
  have c2:=lcon i j h1 h2;have o:=od i (by omega);have e:J1 (yD x i) i=i::J1 (yD x i-1) i:=by obtain⟨q,hq⟩:∃q,yD x i=q+1:=⟨yD x i-1,by omega⟩;rw[hq,Jv,Jaw]
  refine⟨?_,by simp only[pd4,Jl,J7];omega,⟨nw 0 (x.zQ.getD i [])++[],?_,by simp[pd4]⟩,by simp only[pd4,Jl,J7];omega,by simp only[pd4,J7,J5,Jl];omega,by simp only[pd4,J7];omega,fun a ha=>?_,fun a ha=>?_⟩
  ·show hdS x (j::J1 (yD x i) i)=_
   rw[e];exact zRu h hn h1
  ·show hdS x (J1 (yD x i) i)=_
   have:=zRv h hn (s:=[]) (show i<x.zA.length by omega);rw[Jh]at this;exact this
  ·simp only[pd4,J9,Ja]at ha ⊢
   rcases ha with rfl|ha|ha
   ·omega
   ·have:=fu i j h1 h2 a ha;omega
   ·have:=H2 ha;omega
  ·simp only[pd4,J9]at ha ⊢
   rcases ha with rfl|ha
   ·omega
   ·have:=fE i (by omega) a ha;omega
 ·have c1:=lpow i h1
  have o:=od i h1;refine⟨?_,by simp only[pd3,Jl];omega,⟨nw 0 (x.zQ.getD i [])++[],?_,?_⟩,by simp only[pd3,Jl];omega,by simp only[pd3,J7,J5,Jt];omega,by simp only[pd3,J7];omega,fun a ha=>?_,fun a ha=>?_⟩
  ·show hdS x (J1 (yD x i+1) i)=_
   rw[Lw];exact zRv h hn h1
  ·show hdS x ((J1 (yD x i+1) i).drop 1)=_
   rw[Jv,List.drop_succ_cons,Uf];have:=zRv h hn (s:=[]) h1;rw[Jh]at this;exact this
  ·show i::nw 0 (x.zQ.getD i [])=(J1 (yD x i+1) i).take 1++_
   rw[Jv,Jh];rfl
  ·simp only[pd3,Ja,List.mem_singleton]at ha ⊢
   rcases ha with ha|rfl
   ·have:=fE i h1 a ha;omega
   ·omega
  ·simp only[pd3,J9]at ha ⊢
   rcases ha with rfl|ha
   ·omega
   ·have:=fE i h1 a ha;omega
end
section
variable {x:SPr}{m:zF}{D:Nat} (h:Pres x) (hn:x.zA.length<=6) (hD:MOk x.zA.length m D)
 include h hn hD
theorem zSt{d:PD}(hd:d∈cps x){t1 t2:Trc}(hb:d.B x t1 t2)(F:Nat->Nat->Nat->Int):
  ((f_r ⟨x,m,smx m.Prime D (base x.zA.length x.zA.length) F⟩ (enW d.wd) ((0:Nat):Int) 1).bind fun r=>(f_L r.2 r.1 1).bind fun k2=>(f_r k2 (enW d.wd) (d.t:Int) (-1)).bind fun r3=>f_L r3.2 r3.1 (-1))=
   jf ⟨x,m,smx m.Prime D (base x.zA.length x.zA.length) (zDo m D (-1) (zDo m D 1 F t1) t2)⟩:=by
 have ok:=zLj h hn d hd;obtain⟨hk,mW,_⟩:=zGN h hn d hd;obtain⟨⟨u1,y1,rfl,k1⟩,⟨u2,y2,rfl,k2⟩⟩:=hb;obtain⟨q,q1,q2⟩:=ok.h2;have hl:=ok.l;have ht:=ok.ht;obtain⟨c1,n1⟩:=zRt h hn (by omega) ok.l1 k1 ok.m1;obtain⟨c2,n2⟩:=zRt h hn (by omega) ok.l2 k2 ok.m2;have up:∀{w w':List Nat}{tr:Trc},Cb x (lnB (x.zA.length-d.k) 100) w tr w'->Cb x 60000 w tr w':=fun{w w' tr} hc=>by
  have hM:=yCi (x.zA.length-d.k) (by omega)
  generalize lnB (x.zA.length-d.k) 100=M at hc hM
  induction hc with
  |refl w hl hw=>exact .refl _ (by omega) hw
  |step hl hw hs _ ih=>exact .step (by omega) hw hs ih
 rw[zFT h hn hD mW (by omega) (by omega) ok.h1 (s:=1) (by omega) (F:=F),bs];simp only[Kd,K0];rw[zEX h hn hD (by omega) (up c1) n1,bs,zFT h hn hD mW (by omega) ht q1 (s:=-1) (by omega),bs];simp only
 rw[<-q2,zEX h hn hD (by omega) (up c2) n2];rfl
end
theorem zVD{p:Int}{r:Nat}(hi:i<D){t1 t2:Trc}(hp:m.Prime=p):(mkv D fun j=>zDo m D (-1) (zDo m D 1 (fun _ _ _=>0) t1) t2 r i j%m.Prime)=prR p D m t1 t2 (r*D+i):=by grind[sA,prR,zRq]
theorem tB{α β:Type}{f:α->List β}{c:Nat}(hf:∀a,(f a).length<=c):∀l:List α,(l.flatMap f).length<=l.length*c
 | []=>by simp
 |a::l=>by
  have:=tB hf l
  grind[K8]
theorem zGO(hn:x.zA.length<=6):(cps x).length<=300:=by
 have hu:∀i,(ups x.zA.length i).length<=6:=by grind[ups]
 have h1:=tB (c:=36) (f:=fun i=>(ups x.zA.length i).flatMap fun j=>(ups x.zA.length j).map fun k=>pd2 x i j k) (fun i=>by
  have:=tB (c:=6) (f:=fun j=>(ups x.zA.length j).map fun k=>pd2 x i j k) (by grind) (ups x.zA.length i)
  grind) (Jd x.zA.length)
 have h2:=tB (c:=6) (f:=fun i=>(ups x.zA.length i).map fun j=>pd1 x i j) (by grind) (Jd x.zA.length);have h3:=tB (c:=6) (f:=fun i=>(ups x.zA.length i).map fun j=>pd4 x i j) (by grind) (Jd x.zA.length)
 grind[cps]
section
variable {x:SPr}{m:zF}{D:Nat} (hx:zAA x) (hD:MOk x.zA.length m D)
 include hx hD
theorem zNj(h0:0<x.zA.length)(hc:xC (suf x 0))(hr:zFF x m D)(hq:qA x (cps x) prs):∃K,f_n x m=jf K/\
  f_Z m.Prime (gl (base x.zA.length x.zA.length*D) fun k=>kS m.Prime D m prs k) ((prs.length*D:Nat):Int)=jf K:=by
 have h6:=hx.n6;have hp:=hD.p.pos;have hb:=wA x.zA.length (by omega);have h3:=hD.d3;have hB:base x.zA.length x.zA.length*D<=21*3:=Jr hb.2.1 h3;have hql:prs.length<=300:=by rw[<-hq.len];exact zGO h6
 have hqD:prs.length*D<=300*3:=Jr hql h3;obtain⟨K,pk,k1,k2,k3⟩:=zAI hx hD h0 hc hr;obtain⟨K2,pk2,_,j2,j3,j4⟩:=zFJ hD.p (c:=prs.length*D) (N:=base x.zA.length x.zA.length*D) (A:=gl (base x.zA.length x.zA.length*D) fun k=>kS m.Prime D m prs k) (by omega) (fun k hk=>by rw[xJ hk];refine⟨zIl prs,fun j hj=>?_⟩;have di:0<D:=hD.d1;have hi:j/D<prs.length:=(H6 di).2 hj;have hm:j%D<D:=Hu _ di;have e:=zEW (F:=fun q:Trc×Trc=>prR m.Prime D m q.1 q.2 k) (fun _=>zU _ _) prs (j/D) (j%D) hi hm;rw[show j/D*D+j%D=j from by grind[Lx]]at e;rw[kS,e,prR,zW hm];exact⟨Kk _ (by omega),by have:=Kh (zAT m.Prime D m (prs[j/D]).1 (k/D) (k%D) (j%D)-zAT m.Prime D m (prs[j/D]).2 (k/D) (k%D) (j%D)) (show 0<m.Prime by omega);omega⟩) wL
 have key:∀y,Row m.Prime (base x.zA.length x.zA.length*D) y->(Sp m.Prime (base x.zA.length x.zA.length*D) K y↔Sp m.Prime (base x.zA.length x.zA.length*D) K2 y):=by grind[zV8]
 have e:K=K2:=Red.unique (by omega) k2 j3 ⟨fun i hi=>(key _ (k2.row i hi)).1 (uN hi),fun i hi=>(key _ (j3.row i hi)).2 (uN hi)⟩
 grind
end
section
variable {x:SPr}{m:zF}{D:Nat} (h0:x.zA.length=0) (hD:MOk x.zA.length m D)
 include h0 hD
theorem zSu{T:Mx}:zL1 ⟨x,m,T⟩=jf []:=by
 have _:=hD;unfold zL1;rw[yQ];unfold zJX
 grind
theorem zPf:∃K pk,f_n x m=jf K/\f_Z m.Prime [] 0=jf K/\Red m.Prime 0 K pk:=by
 obtain⟨K,pk,k1,k2,k3,_⟩:=zFJ hD.p (c:=0) (N:=0) (A:=[]) (by omega) (by simp) rfl;refine⟨K,pk,?_,k2,k3⟩;unfold f_n;have e1:=zIm hD (N:=0) (by omega);have e2:=zJK hD (B:=0) (L:=[]) (by omega) (by simp) (by simp);rw[Uy]at e1;rw[zBC h0,bs,hD.d,show base 0 0=0 from rfl,show((0:Nat):Int)*(D:Int)=((0:Nat):Int)from by simp,zB,bs,e1,bs,zSu h0 hD,bs,e2,bs,show((([]:Mx).length:Nat):Int)*(D:Int)=((0:Nat):Int)from by simp,zB,bs]
 grind
end
theorem yFU{v:Int}:f_k [v] 4=jf [v,v,v,v]:=by
 unfold f_k;have h:=zO (body:=zBN) (r:=[v,v,v,v]) (fun i=>match i with|0=>([v,0,0,0],1)|1=>([v,v,0,0],2)|_=>([v,v,v,v],4)) 2 (fun i hi=>by
  match i,hi with
  |0,_=>rfl
  |1,_=>simp[zBN,zS,wQ,rng,inR]) (by rfl)
 rw[show decide ((4:Int)<0)=ji from rfl,zK,zMB (by rfl),bs];have hl:yG (IntKind.wrap .i64 4)=jf 4:=by rfl
 simp only[hl,bs];rw[show decide ((0:Int)> 0)=ji from rfl,zK,show decide ((4:Int)> 9223372036854775807)=ji from by decide,zK]
 grind[wQ]
theorem yFV{v:Int}:f_k [v] 6=jf [v,v,v,v,v,v]:=by
 unfold f_k;have h:=zO (body:=zBN) (r:=[v,v,v,v,v,v]) (fun i=>match i with|0=>([v,0,0,0,0,0],1)|1=>([v,v,0,0,0,0],2)|2=>([v,v,v,v,0,0],4)|_=>([v,v,v,v,v,v],6)) 3 (fun i hi=>by
  match i,hi with
  |0,_=>rfl
  |1,_=>simp[zBN,zS,wQ,rng,inR]
  |2,_=>rfl) (by rfl)
 rw[show decide ((6:Int)<0)=ji from rfl,zK,zMB (by rfl),bs];have hl:yG (IntKind.wrap .i64 6)=jf 6:=by rfl
 simp only[hl,bs];rw[show decide ((0:Int)> 0)=ji from rfl,zK,show decide ((6:Int)> 9223372036854775807)=ji from by decide,zK];have e2:wQ (J1 6 (0:Int)) 0 (([v]:List Int).take ((J1 6 (0:Int)).length-0))=[v,0,0,0,0,0]:=by rfl
 grind
theorem yFW{v:Int}:f_k [v] 8=jf [v,v,v,v,v,v,v,v]:=by
 unfold f_k;have h:=zO (body:=zBN) (r:=[v,v,v,v,v,v,v,v]) (fun i=>match i with|0=>([v,0,0,0,0,0,0,0],1)|1=>([v,v,0,0,0,0,0,0],2)|2=>([v,v,v,v,0,0,0,0],4)|_=>([v,v,v,v,v,v,v,v],8)) 3 (fun i hi=>by
  match i,hi with
  |0,_=>rfl
  |1,_=>simp[zBN,zS,wQ,rng,inR]
  |2,_=>simp[zBN,zS,wQ,rng,inR]) (by rfl)
 rw[show decide ((8:Int)<0)=ji from rfl,zK,zMB (by rfl),bs];have hl:yG (IntKind.wrap .i64 8)=jf 8:=by rfl
 simp only[hl,bs];rw[show decide ((0:Int)> 0)=ji from rfl,zK,show decide ((8:Int)> 9223372036854775807)=ji from by decide,zK];have e2:wQ (J1 8 (0:Int)) 0 (([v]:List Int).take ((J1 8 (0:Int)).length-0))=[v,0,0,0,0,0,0,0]:=by rfl
 grind
theorem zAJ{β:Type}{body:List β×Int->Option ((List β×Int)⊕List β)}(s n B:Nat)(F:Nat->List β)(a0:List β)(hB:a0.length+((K7 s n).flatMap F).length<=B)
  (h:∀i acc,s<=i->i<s+n->acc.length+(F i).length<=B->body (acc,((i+1:Nat):Int))=jf (.inl (acc++F i,((i+1+1:Nat):Int))))(he:∀acc,body (acc,((s+n+1:Nat):Int))=jf (.inr acc)):
  zE body (a0,((s+1:Nat):Int))=jf (a0++(K7 s n).flatMap F):=by
 have:=zO (body:=body) (r:=a0++(K7 s n).flatMap F) (fun i=>(a0++(K7 s i).flatMap F,((s+i+1:Nat):Int))) n (fun i hi=>by
  have e:(K7 s (i+1)).flatMap F=(K7 s i).flatMap F++F (s+i):=by rw[Ql,U4,Kr,qd9,Jh]
  have fd:((K7 s (i+1)).flatMap F).length<=((K7 s n).flatMap F).length:=by
   obtain⟨k,rfl⟩:∃k,n=i+1+k:=⟨n-(i+1),by omega⟩;have e3:K7 s (i+1+k)=K7 s (i+1)++K7 (s+(i+1)) k:=List.range'_append_1.symm
   grind
  grind) (he _)
 grind
def CPd(d:PD):zJ:=⟨enW d.wd,enW d.w1,enW d.w2⟩
section
variable {x:SPr} (h:Pres x) (hn:x.zA.length<=6)
 include h
theorem zNk{v:Int}(ha:a<x.zA.length):zNP v ((yD x a:Nat):Int)=jf (J1 (yD x a) v):=by
 have hp:=h.os.2 a ha;have e:=(qO h ha).1;have e2:at0 x.zA a=((yD x a:Nat):Int):=by grind[yJ]
 grind[zNP,zC5]
theorem zSv{v:Int}(ha:a<x.zA.length):zNP v (((yD x a+1:Nat)):Int)=jf (J1 (yD x a+1) v):=by
 have hp:=h.os.2 a ha;have e:=(qO h ha).1;have e2:at0 x.zA a=((yD x a:Nat):Int):=by grind[yJ]
 rw[e2]at hp;have:yD x a=2\/yD x a=3\/yD x a=5\/yD x a=7:=by rcases hp with g|g|g|g<;>omega
 unfold zNP;rcases this with g|g|g|g<;>rw[g]
 ·exact(congrArg (fun o=>Gz o _) (zC5 (v:=v) (o:=3) (.inr (.inl rfl)))).trans rfl
 ·exact(congrArg (fun o=>Gz o _) (yFU (v:=v))).trans rfl
 ·exact(congrArg (fun o=>Gz o _) (yFV (v:=v))).trans rfl
 ·exact(congrArg (fun o=>Gz o _) (yFW (v:=v))).trans rfl
 include hn
theorem zEY{d:PD}(hd:d∈cps x)(ho:out.length<=100000):zNO (enW d.wd) (d.t:Int) out x=jf (out++[CPd d]):=by have ok:=zLj h hn d hd;obtain⟨_,mW,_⟩:=zGN h hn d hd;obtain⟨q,q1,q2⟩:=ok.h2;have hl:=ok.l;have ht:=ok.ht;unfold zNO;rw[show(0:Int)=((0:Nat):Int)from rfl,zCD h hn mW (by omega) (by omega) ok.h1,bs,zCD h hn mW (by omega) ht q1,bs,zV (by grind),bs];simp only[Kd,K0];rw[<-q2];rfl
end
theorem zBJ{α β:Type}{f:α->β}:∀l:List α,(l.flatMap fun a=>[f a])=l.map f
 | []=>rfl
 |a::l=>by rw[Kr,zBJ l];rfl
theorem zAf(hN:N<=6):(ups N i).length<=6:=by grind[ups]
section
variable {x:SPr} (h:Pres x) (hn:x.zA.length<=6)
 include h hn
theorem yE2(gI:i<j)(hj:j<x.zA.length){o2:List zJ}(ho:out.length<=3000):
  zE (zSX x (o1,((i+1:Nat):Int)) (o2,((j+1:Nat):Int))) (out,((j+1+1:Nat):Int))=jf (out++(ups x.zA.length j).map fun k=>CPd (pd2 x i j k)):=by
 have hm:=((zAH (x:=x) (φ:=fun d=>d∈cps x)).1 fun d hd=>hd).1;have hu:=zAf (i:=j) hn;have:=zAJ (body:=zSX x (o1,((i+1:Nat):Int)) (o2,((j+1:Nat):Int))) (j+1) (x.zA.length-(j+1)) 4000 (fun k=>[CPd (pd2 x i j k)]) out (by rw[zBJ,Jf];grind) (fun k acc hk1 eZ hb=>by
  unfold zSX;simp only
  have e:([((k+1:Nat):Int),((j+1:Nat):Int),((i+1:Nat):Int)])=enW (pd2 x i j k).wd:=by rfl
  rw[jk,zH,e,show(1:Int)=((pd2 x i j k).t:Int)from rfl,zEY h hn (by grind) (by omega),bs,show((k+1:Nat):Int)+((pd2 x i j k).t:Int)=((k+1+1:Nat):Int)from rfl,zB,bs]) (fun acc=>by
  unfold zSX
  grind)
 rw[zBJ]at this;exact this
theorem yE3(hi:i<x.zA.length)(ho:out.length<=2000):
  zE (zSY x (o1,((i+1:Nat):Int))) (out,((i+1+1:Nat):Int))=jf (out++(ups x.zA.length i).flatMap fun j=>(ups x.zA.length j).map fun k=>CPd (pd2 x i j k)):=by
 have hu:=zAf (i:=i) hn;have hf:=tB (c:=6) (f:=fun j=>(ups x.zA.length j).map fun k=>CPd (pd2 x i j k)) (by grind[zAf]) (ups x.zA.length i);have:=zAJ (body:=zSY x (o1,((i+1:Nat):Int))) (i+1) (x.zA.length-(i+1)) 3000 (fun j=>(ups x.zA.length j).map fun k=>CPd (pd2 x i j k)) out (by grind[ups]) (fun j acc hj1 bq hb=>by
  unfold zSY;simp only
  rw[jk,zH,show((j+1:Nat):Int)+1=((j+1+1:Nat):Int)from by omega,zB,bs,yE2 h hn (by omega) (by omega) (by omega),bs,bs]) (fun acc=>by
  unfold zSY
  grind)
 exact this
theorem yE4:zE (zSZ x) ([],1)=jf ((Jd x.zA.length).flatMap fun i=>(ups x.zA.length i).flatMap fun j=>(ups x.zA.length j).map fun k=>CPd (pd2 x i j k)):=by
 have hf:=tB (c:=36) (f:=fun i=>(ups x.zA.length i).flatMap fun j=>(ups x.zA.length j).map fun k=>CPd (pd2 x i j k)) (fun i=>by
  have:=tB (c:=6) (f:=fun j=>(ups x.zA.length j).map fun k=>CPd (pd2 x i j k)) (by grind[zAf]) (ups x.zA.length i)
  grind[zAf]) (Jd x.zA.length)
 rw[Lh]at hf;have:=zAJ (body:=zSZ x) 0 x.zA.length 2000 (fun i=>(ups x.zA.length i).flatMap fun j=>(ups x.zA.length j).map fun k=>CPd (pd2 x i j k)) [] (by grind[Kw]) (fun i acc aW eR hb=>by
  unfold zSZ;simp only
  rw[jk,zH,show((i+1:Nat):Int)+1=((i+1+1:Nat):Int)from by omega,zB,bs,yE3 h hn (by omega) (by omega),bs,bs]) (fun acc=>by
  unfold zSZ
  grind)
 grind[Kw]
theorem yE5(hi:i<x.zA.length)(ho:out.length<=3000):
  zE (zTa x (o1,((i+1:Nat):Int))) (out,((i+1+1:Nat):Int))=jf (out++(ups x.zA.length i).map fun j=>CPd (pd1 x i j)):=by
 have hm:=((zAH (x:=x) (φ:=fun d=>d∈cps x)).1 fun d hd=>hd).2.1;have hu:=zAf (i:=i) hn;have:=zAJ (body:=zTa x (o1,((i+1:Nat):Int))) (i+1) (x.zA.length-(i+1)) 4000 (fun j=>[CPd (pd1 x i j)]) out (by rw[zBJ,Jf];rw[ups]at hu;omega) (fun j acc hj1 bq hb=>by
  have ho:=qO h (show j<x.zA.length by omega);unfold zTa;simp only
  have e:J1 (yD x j) ((j+1:Nat):Int)++[((i+1:Nat):Int)]=enW (pd1 x i j).wd:=by show _=enW (J1 (yD x j) j++[i]);simp only[enW,K6,List.map_replicate,Ju,Le];rfl
  have et:((yD x j:Nat):Int)-1=((pd1 x i j).t:Int):=by show _=((yD x j-1:Nat):Int);omega
  rw[jk,zH,show((j+1:Nat):Int)-1=(j:Int)from by omega,zB (n:=(j:Int)),bs,ho.1,bs,zNk h (by omega),bs,zV (by simp only[Jl,J7,Jt];omega),bs,bs,ho.1,bs,zB (n:=((yD x j:Nat):Int)-1),bs,e,et,zEY h hn (hm i j (by omega) (by omega)) (by simp only[J7,Jt]at hb;omega),bs,show((j+1:Nat):Int)+1=((j+1+1:Nat):Int)from by omega,zB,bs]) (fun acc=>by
  unfold zTa;simp only
  rw[jj (by omega),zK])
 rw[zBJ]at this;exact this
theorem yE6(ho:out.length<=1000):zE (zTb x) (out,1)=jf (out++(Jd x.zA.length).flatMap fun i=>(ups x.zA.length i).map fun j=>CPd (pd1 x i j)):=by
 have hf:=tB (c:=6) (f:=fun i=>(ups x.zA.length i).map fun j=>CPd (pd1 x i j)) (by grind[zAf]) (Jd x.zA.length);rw[Lh]at hf;have:=zAJ (body:=zTb x) 0 x.zA.length 2000 (fun i=>(ups x.zA.length i).map fun j=>CPd (pd1 x i j)) out (by grind[Kw]) (fun i acc aW eR hb=>by
  unfold zTb;simp only
  rw[jk,zH,show((i+1:Nat):Int)+1=((i+1+1:Nat):Int)from by omega,zB,bs,yE5 h hn (by omega) (by omega),bs,bs]) (fun acc=>by
  unfold zTb
  grind)
 grind[Kw]
theorem yE7(hi:i<x.zA.length)(ho:out.length<=3000):
  zE (zTc x (o1,((i+1:Nat):Int))) (out,((i+1+1:Nat):Int))=jf (out++(ups x.zA.length i).map fun j=>CPd (pd4 x i j)):=by
 have hm:=((zAH (x:=x) (φ:=fun d=>d∈cps x)).1 fun d hd=>hd).2.2.1;have hu:=zAf (i:=i) hn;have ho:=qO h hi;have:=zAJ (body:=zTc x (o1,((i+1:Nat):Int))) (i+1) (x.zA.length-(i+1)) 4000 (fun j=>[CPd (pd4 x i j)]) out (by rw[zBJ,Jf];grind) (fun j acc hj1 bq hb=>by
  unfold zTc;simp only
  have e:[((j+1:Nat):Int)]++J1 (yD x i) ((i+1:Nat):Int)=enW (pd4 x i j).wd:=by show _=enW (j::J1 (yD x i) i);simp
  rw[jk,zH,show((i+1:Nat):Int)-1=(i:Int)from by omega,zB (n:=(i:Int)),bs,ho.1,bs,zNk h hi,bs,zV (by simp only[Jl,J7,Jt];omega),bs,e,show(1:Int)=((pd4 x i j).t:Int)from rfl,zEY h hn (hm i j (by omega) (by omega)) (by simp only[J7,Jt]at hb;omega),bs,show((j+1:Nat):Int)+((pd4 x i j).t:Int)=((j+1+1:Nat):Int)from rfl,zB,bs]) (fun acc=>by
  unfold zTc
  grind)
 rw[zBJ]at this;exact this
theorem yE8(ho:out.length<=1000):zE (zTd x) (out,1)=jf (out++(Jd x.zA.length).flatMap fun i=>(ups x.zA.length i).map fun j=>CPd (pd4 x i j)):=by
 have hf:=tB (c:=6) (f:=fun i=>(ups x.zA.length i).map fun j=>CPd (pd4 x i j)) (by grind[zAf]) (Jd x.zA.length);rw[Lh]at hf;have:=zAJ (body:=zTd x) 0 x.zA.length 2000 (fun i=>(ups x.zA.length i).map fun j=>CPd (pd4 x i j)) out (by grind[Kw]) (fun i acc aW eR hb=>by
  unfold zTd;simp only
  rw[jk,zH,show((i+1:Nat):Int)+1=((i+1+1:Nat):Int)from by omega,zB,bs,yE7 h hn (by omega) (by omega),bs,bs]) (fun acc=>by
  unfold zTd
  grind)
 grind[Kw]
theorem yE9(ho:out.length<=1000):zE (zTe x) (out,1)=jf (out++(Jd x.zA.length).map fun i=>CPd (pd3 x i)):=by
 have hm:=((zAH (x:=x) (φ:=fun d=>d∈cps x)).1 fun d hd=>hd).2.2.2;have:=zAJ (body:=zTe x) 0 x.zA.length 2000 (fun i=>[CPd (pd3 x i)]) out (by rw[zBJ,Jf,Ja0];omega) (fun i acc aW eR hb=>by
  have ho:=qO h (show i<x.zA.length by omega);unfold zTe;simp only
  have e:J1 (yD x i+1) ((i+1:Nat):Int)=enW (pd3 x i).wd:=by show _=enW (J1 (yD x i+1) i);simp
  rw[jk,zH,show((i+1:Nat):Int)-1=(i:Int)from by omega,zB (n:=(i:Int)),bs,ho.1,bs,show((yD x i:Nat):Int)+1=((yD x i+1:Nat):Int)from by omega,zB (n:=((yD x i+1:Nat):Int)),bs,zSv h (by omega),bs,e,show(1:Int)=((pd3 x i).t:Int)from rfl,zEY h hn (hm i (by omega)) (by simp only[J7,Jt]at hb;omega),bs,show((i+1:Nat):Int)+((pd3 x i).t:Int)=((i+1+1:Nat):Int)from rfl,zB,bs]) (fun acc=>by
  unfold zTe
  grind)
 grind[zBJ,Kw]
theorem zEb:f_e x=jf ((cps x).map CPd):=by
 have hl:=zGO (x:=x) hn;have em:(cps x).map CPd=((Jd x.zA.length).flatMap fun i=>(ups x.zA.length i).flatMap fun j=>(ups x.zA.length j).map fun k=>CPd (pd2 x i j k))++(((Jd x.zA.length).flatMap fun i=>(ups x.zA.length i).map fun j=>CPd (pd1 x i j))++(((Jd x.zA.length).flatMap fun i=>(ups x.zA.length i).map fun j=>CPd (pd4 x i j))++(Jd x.zA.length).map fun i=>CPd (pd3 x i))):=by simp only[cps,K6,List.map_flatMap,Jaz];rfl
 have aT:((cps x).map CPd).length<=300:=by grind
 rw[em]at aT;simp only[J5]at aT;unfold f_e;rw[yE4 h hn,bs,yE6 h hn (by omega),bs,yE8 h hn (by grind),bs,yE9 h hn (by simp only[J5];omega),bs,em];simp
end
theorem yFX:yC7=zNR:=rfl
theorem yFY:yC8=zNR:=rfl
theorem qA.get{x:SPr}:{ds:List PD}->{qs:List (Trc×Trc)}->qA x ds qs-> ∀k(h1:k<ds.length)(h2:k<qs.length),(ds[k]).B x (qs[k]).1 (qs[k]).2
 | [],[],_,k,h1,_=>by simp at h1
 |d::ds,q::qs,h,0,_,_=>h.1
 |d::ds,q::qs,h,k+1,h1,h2=>by simpa using qA.get h.2 k (by simpa using h1) (by simpa using h2)
 | [],_::_,h,_,_,_=>by grind
 |_::_,[],h,_,_,_=>by grind
theorem zSw{p:Int}{q:Nat}(hk:k<prs.length):kS p D m (prs.take (k+1)) q=kS p D m (prs.take k) q++prR p D m (prs[k]).1 (prs[k]).2 q:=by grind[kS,K5]
section
variable {x:SPr}{m:zF}{D:Nat} (hD:MOk x.zA.length m D)
 include hD
theorem yEA:zE (zTg ⟨m.Prime,(D:Int),idM D⟩) (idM D,0)=jf (gl D fun _=>mkv D fun _=>0):=by
 have h3:=hD.d3;have:=zO (body:=zTg ⟨m.Prime,(D:Int),idM D⟩) (r:=gl D fun _=>mkv D fun _=>0) (fun i=>(gl D fun a=>mkv D fun j=>if j=a then(if a<i then 0 else 1)else 0,(i:Int))) D (fun i hi=>by
  unfold zTg;simp only
  rw[sK,yP hi,zH,zAD hi,bs,yJ (by grind[zU]),bs,zB,bs];simp only[J8];rw[zDV,sP]
  grind) (by
  unfold zTg;simp only
  rw[sK,tS,zK]
  simp_all)
 have e:(gl D fun a=>mkv D fun j=>if j=a then(if a<0 then(0:Int)else 1)else 0)=idM D:=rfl
 grind
theorem yEB(hN:N<=100):zE (zPR m (N:Int)) ([],0)=jf (smx m.Prime D N fun _ _ _=>0):=by
 refine(wI (body:=zPR m (N:Int)) N (fun _=>zI.mk m.Prime (D:Int) (gl D fun _=>mkv D fun _=>0)) (fun i acc hi ha=>?_) (fun acc=>?_)).trans ?_
 ·unfold zPR
  simp only
  rw[yP hi,zH,hD.d,zAR hD.p (by have:=hD.d3;omega),bs]
  grind[yEA,zV,zB]
 ·unfold zPR
  simp
 ·rfl
section
variable {N:Nat}{G:Nat->Nat->Nat->Int}{R:Nat->List Int}
abbrev zEZ(p:Int)(D:Nat)(G:Nat->Nat->Nat->Int)(R:Nat->List Int)(k:Nat):List Int:=R k++mkv D fun j=>G (k/D) (k%D) j%p
theorem yEC(hN:N<=100)(hR:∀k,(R k).length<=100000){r:Nat}(hr:r<N){z:Mx}:
  zE (zTh m (z,(r:Int)) ⟨m.Prime,(D:Int),gl D fun i=>mkv D fun j=>G r i j%m.Prime⟩) (gl (N*D) fun k=>if k<r*D then zEZ m.Prime D G R k else R k,0)=jf (gl (N*D) fun k=>if k<(r+1)*D then zEZ m.Prime D G R k else R k):=by
 have h3:=hD.d3;have h1:=hD.d1;have hb:(r+1)*D<=N*D:=Kc D (by omega);have ch:N*D<=100*3:=Jr hN h3;rw[K8]at hb;have:=zO (body:=zTh m (z,(r:Int)) ⟨m.Prime,(D:Int),gl D fun i=>mkv D fun j=>G r i j%m.Prime⟩) (r:=gl (N*D) fun k=>if k<(r+1)*D then zEZ m.Prime D G R k else R k) (fun i=>(gl (N*D) fun k=>if k<r*D+i then zEZ m.Prime D G R k else R k,(i:Int))) D (fun i hi=>by
  obtain⟨e1,e2⟩:=sA (q:=r) hi;unfold zTh;simp only
  rw[wL,yP hi,zH,zAD hi,bs,hD.d,<-Up,zB,bs,<-Hn,zB,bs,zAD,bs,if_neg (by omega),zV (by rw[zU];have:=hR (r*D+i);omega),bs,zB,bs];simp only[J8];rw[zDV]
  grind) (by
  unfold zTh
  grind)
 exact this
theorem yED(hN:N<=100)(hR:∀k,(R k).length<=100000):zE (zNR m ⟨x,m,smx m.Prime D N G⟩) (gl (N*D) R,0)=jf (gl (N*D) (zEZ m.Prime D G R)):=by
 have gf:(smx m.Prime D N G).length=N:=wL;have:=zO (body:=zNR m ⟨x,m,smx m.Prime D N G⟩) (r:=gl (N*D) (zEZ m.Prime D G R)) (fun i=>(gl (N*D) fun k=>if k<i*D then zEZ m.Prime D G R k else R k,(i:Int))) N (fun i hi=>by
  unfold zNR;simp only
  rw[gf,yP hi,zH,smx,zAD hi,bs,yEC hD hN hR hi,bs,zB,bs];rfl) (by
  unfold zNR
  simp_all)
 grind
end
end
theorem yEE(h:Pres x):∀d∈cps x,2<=d.wd.length/\((d.wd.getD 0 0=d.wd.getD 1 0/\d.wd.getD (d.wd.length-1) 0≠d.wd.getD 0 0/\d.t=d.wd.length-2)\/(d.wd.getD 0 0=d.wd.getD 1 0/\d.wd.getD (d.wd.length-1) 0=d.wd.getD 0 0/\d.t=1)\/(d.wd.getD 0 0≠d.wd.getD 1 0/\d.t=1)):=by
 refine zAH.2 ⟨fun i j k h1 h2 h3=>?_,fun i j h1 h2=>?_,fun i j h1 h2=>?_,fun i h1=>?_⟩
 ·refine⟨by simp[pd2],.inr (.inr ⟨?_,rfl⟩)⟩
  show k≠j;omega
 ·have o:=(qO h h2).2
  obtain⟨q,hq⟩:∃q,yD x j=q+2:=⟨yD x j-2,by omega⟩;simp only[pd1,hq,J5,Jl,J7,Jt];refine⟨by omega,.inl ⟨rfl,?_,by omega⟩⟩;have:(J1 (q+2) j++[i]).getD (q+2+(0+1)-1) 0=i:=by simp
  grind
 ·have o:=(qO h (show i<x.zA.length by omega)).2
  obtain⟨q,hq⟩:∃q,yD x i=q+2:=⟨yD x i-2,by omega⟩;simp only[pd4,hq,Jl,J7]
  grind
 ·have o:=(qO h h1).2
  obtain⟨q,hq⟩:∃q,yD x i=q+2:=⟨yD x i-2,by omega⟩;simp only[pd3,hq,Jl];simp
section
variable {x:SPr}{m:zF}{D:Nat} (h:Pres x) (hn:x.zA.length<=6) (hD:MOk x.zA.length m D)
 include h hn hD
theorem zYH(hq:qA x (cps x) prs)(hk:k<(cps x).length)(hN:N=base x.zA.length x.zA.length):
  zTi x m (N:Int) ((cps x).map CPd) (gl (N*D) (fun q=>kS m.Prime D m (prs.take k) q),(k:Int))=jf (.inl (gl (N*D) (fun q=>kS m.Prime D m (prs.take (k+1)) q),((k+1:Nat):Int))):=by
 subst hN;have hl:=hq.len;have hd:=Jp hk;have eZ:k<prs.length:=by omega
 have fx:=wA x.zA.length (by omega);have h3:=hD.d3;have h1:=hD.d1;have gy:=zGO (x:=x) hn;have eh:=zSt h hn hD hd (hq.get k hk eZ) (fun _ _ _=>0);obtain⟨w2,ht⟩:=yEE h _ hd;have hlw:=(zLj h hn _ hd).l;have eM:=(zLj h hn _ hd).ht;have hR:∀q,(kS m.Prime D m (prs.take k) q).length<=100000:=fun q=>by rw[zIl,Ke];have:min k prs.length*D<=300*3:=Jr (by omega) h3;omega
 have cz:=yED (x:=x) (G:=zDo m D (-1) (zDo m D 1 (fun _ _ _=>0) (prs[k]).1) (prs[k]).2) hD (show base x.zA.length x.zA.length<=100 by omega) hR;have erow:gl (base x.zA.length x.zA.length*D) (zEZ m.Prime D (zDo m D (-1) (zDo m D 1 (fun _ _ _=>0) (prs[k]).1) (prs[k]).2) (fun q=>kS m.Prime D m (prs.take k) q))=gl (base x.zA.length x.zA.length*D) fun q=>kS m.Prime D m (prs.take (k+1)) q:=kJ fun q _=>by have hm:q%D<D:=Hu _ (by omega);rw[zSw eZ,zEZ,zVD hm rfl,show q/D*D+q%D=q from by grind[Lx]]
 rw[erow]at cz;have hix:ixO ((cps x).map CPd) (k:Int)=jf (CPd (cps x)[k]):=by grind[zA7]
 generalize (cps x)[k]=d at*
 have key:∀K:yY->Option ((Mx×Int)⊕Mx),((f_r ⟨x,m,smx m.Prime D (base x.zA.length x.zA.length) fun _ _ _=>0⟩ (enW d.wd) 0 1).bind fun r=>(f_L r.2 r.1 1).bind fun k2=>(f_r k2 (enW d.wd) (d.t:Int) (-1)).bind fun r3=>(f_L r3.2 r3.1 (-1)).bind K)=K ⟨x,m,smx m.Prime D (base x.zA.length x.zA.length) (zDo m D (-1) (zDo m D 1 (fun _ _ _=>0) (prs[k]).1) (prs[k]).2)⟩:=fun K=>by have e:=congrArg (fun o=>Gz o K) eh;simp only[Option.bind_assoc,bs]at e;exact e
 unfold zTi;simp only
 rw[Jf,yP hk,zH,hix,bs,yEB hD (by omega),bs];simp only[CPd];have i0:=tU (w:=d.wd) (t:=0);have i1:=tU (w:=d.wd) (t:=1);have il:=tU (w:=d.wd) (t:=d.wd.length-1);rw[show((0:Nat):Int)=0 from rfl]at i0;rw[show((1:Nat):Int)=1 from rfl]at i1;rw[i0,bs,i1,bs,Jf];rcases ht with⟨t1,t2,t3⟩|⟨t1,t2,t3⟩|⟨t1,t3⟩
 ·rw[show((((d.wd.getD 0 0:Nat):Int)+1)==(((d.wd.getD 1 0:Nat):Int)+1))=jh from by grind,zH,zB,bs,show(d.wd.length:Int)-1=((d.wd.length-1:Nat):Int)from by omega,il,bs,show((((d.wd.getD (d.wd.length-1) 0:Nat):Int)+1) != (((d.wd.getD 0 0:Nat):Int)+1))=jh from by rw[bne_iff_ne];omega,zH,zB,bs,show(d.wd.length:Int)-2=(d.t:Int)from by omega,key,cz,bs,zB,bs]
  rfl
 ·rw[show((((d.wd.getD 0 0:Nat):Int)+1)==(((d.wd.getD 1 0:Nat):Int)+1))=jh from by grind,zH,zB,bs,show(d.wd.length:Int)-1=((d.wd.length-1:Nat):Int)from by omega,il,bs,show((((d.wd.getD (d.wd.length-1) 0:Nat):Int)+1) != (((d.wd.getD 0 0:Nat):Int)+1))=ji from by rw[t2];exact bne_self_eq_false _,zK]
  rw[t3]at key;rw[show(1:Int)=((1:Nat):Int)from rfl]at*
  rw[key,yFX,cz,bs,zB,bs];rfl
 ·rw[show((((d.wd.getD 0 0:Nat):Int)+1)==(((d.wd.getD 1 0:Nat):Int)+1))=ji from by grind,zK]
  rw[t3]at key;rw[show(1:Int)=((1:Nat):Int)from rfl]at*
  rw[key,yFY,cz,bs,zB,bs];rfl
end
section
variable {x:SPr}{m:zF}{D:Nat} (hx:zAA x) (hD:MOk x.zA.length m D)
 include hx hD
theorem zIM(hc:xC (suf x 0))(hr:zFF x m D):∃K pk,f_n x m=jf K/\f_f x m=jf K/\Red m.Prime (base x.zA.length x.zA.length*D) K pk:=by
 have h6:=hx.n6;have h3:=hD.d3;have h1:=hD.d1;have fx:=wA x.zA.length (by omega);have hbD:base x.zA.length x.zA.length*D<=21*3:=Jr fx.2.1 h3;obtain⟨prs,hq⟩:=yCh hx hD;have hl:=hq.len;have gy:=zGO (x:=x) h6;have eU:=zO (body:=zTi x m ((base x.zA.length x.zA.length:Nat):Int) ((cps x).map CPd)) (r:=gl (base x.zA.length x.zA.length*D) (fun q=>kS m.Prime D m prs q)) (fun k=>(gl (base x.zA.length x.zA.length*D) (fun q=>kS m.Prime D m (prs.take k) q),(k:Int))) (cps x).length (fun k hk=>zYH hx.toPres h6 hD hq hk rfl) (by
  unfold zTi
  grind)
 have e0:gl (base x.zA.length x.zA.length*D) (fun q=>kS m.Prime D m (prs.take 0) q)=J1 (base x.zA.length x.zA.length*D) ([]:List Int):=by simp only[Kd,kS,Le,Uz];rw[List.eq_replicate_iff];simp
 rw[e0]at eU;have mb:f_f x m=cond (decide (((gl (base x.zA.length x.zA.length*D) (fun q=>kS m.Prime D m prs q)).length:Int)> 0)) (
   (ixO (gl (base x.zA.length x.zA.length*D) (fun q=>kS m.Prime D m prs q)) 0).bind fun v32=>(f_Z m.Prime (gl (base x.zA.length x.zA.length*D) (fun q=>kS m.Prime D m prs q)) (v32.length:Int)).bind fun r33=>jf r33) (
   (f_Z m.Prime (gl (base x.zA.length x.zA.length*D) (fun q=>kS m.Prime D m prs q)) 0).bind fun r34=>jf r34):=by
  unfold f_f;rw[zHP rfl h6,bs,hD.d,<-Up,zB,bs,yI,bs,zEb hx.toPres h6,bs]
  grind
 rcases Jav x.zA.length with h0|h0
 ·obtain⟨K,pk,k1,k2,k3⟩:=zPf h0 hD
  grind
 ·obtain⟨K,pk,k1,k2,_⟩:=zAI hx hD h0 hc hr
  obtain⟨K2,j1,j2⟩:=zNj hx hD h0 hc hr hq;rw[k1]at j1;cases j1;refine⟨K,pk,k1,?_,k2⟩;have pG:0<base x.zA.length x.zA.length*D:=Nat.mul_pos (by omega) h1;rw[mb,wL,jk,zH,show(0:Int)=((0:Nat):Int)from rfl,zAD pG,bs,zIl,j2,bs]
end
theorem zVE{n:Nat}{v:List Int}(hD:1<=D)(hl:v.length=n*D):(zGz n D v).flatten=v:=by
 have hF:∀i:Nat,(mkv D fun j=>at0 v (i*D+j)).length=D:=fun i=>zU _ _
 have h1:(zGz n D v).flatten.length=n*D:=by have:=zFS (F:=fun i=>mkv D fun j=>at0 v (i*D+j)) hF (Jd n);rw[Lh]at this;exact this
 refine(vJ h1).trans (((zX fun k hk=>?_)).trans (vJ hl).symm);have hi:k/D<n:=(H6 (by omega)).2 hk;have hm:k%D<D:=Hu _ (by omega);have e:=zEW (F:=fun i=>mkv D fun j=>at0 v (i*D+j)) hF (Jd n) (k/D) (k%D) (by grind) hm;rw[show k/D*D+k%D=k from by grind[Lx]]at e;rw[List.getElem_range,zW hm,show k/D*D+k%D=k from by grind[Lx]]at e;exact e
section
variable {x:SPr}{m:zF}{D:Nat} (hx:zAA x) (hD:MOk x.zA.length m D)
 include hx hD
theorem zJM:∃R pv,zPO x m=jf R/\Red m.Prime (base x.zA.length x.zA.length*D) R pv/\base x.zA.length x.zA.length*D<=63/\ ∀v,Row m.Prime (base x.zA.length x.zA.length*D) v->
  Row m.Prime (base x.zA.length x.zA.length*D) (cl m.Prime (base x.zA.length x.zA.length*D) R pv v R.length)/\zSG m.Prime R v=jf (cl m.Prime (base x.zA.length x.zA.length*D) R pv v R.length)/\
  zXp x m v=jf (zGz (base x.zA.length x.zA.length) D (cl m.Prime (base x.zA.length x.zA.length*D) R pv v R.length)):=by
 have h3:=hD.d3;obtain⟨R,pv,r1,r2,r3,r4,r5,r6⟩:=zOX hx hD;refine⟨R,pv,r1,r4,r6,fun v hv=>?_⟩;have gy:=zKN hD.p (by omega) r4 hv R.length;refine⟨gy,zHM hD.p (by omega) r4 hv (by omega),?_⟩;unfold zXp zPN;rw[r2,bs,r3,bs,bs,zHQ hD.p (by omega) r4 hv (by omega),bs,hD.d,zHT hD.d1 gy.1,bs]
theorem zPg{v:List Int}(hv:Row m.Prime (base x.zA.length x.zA.length*D) v):f_t (zGz (base x.zA.length x.zA.length) D v)=jf v:=by have h6:=hx.n6;have h3:=hD.d3;have hb:=wA x.zA.length (by omega);have aE:base x.zA.length x.zA.length*D<=21*3:=Jr hb.2.1 h3;have e:=zVE hD.d1 hv.1;rw[qQ (by grind[zGz]) (by rw[e,hv.1];omega),e]
theorem zLk(hc:xC (suf x 0))(hr:zFF x m D):∃C pc K rows,zXw x m=jf C/\f_f x m=jf K/\zE (zNS x m K) ([],0)=jf rows/\f_i m.Prime rows=jf C/\Red m.Prime (base x.zA.length x.zA.length*D) C pc/\base x.zA.length x.zA.length*D<=63:=by
 obtain⟨R,pv,r1,r2,r3,r4⟩:=zJM hx hD;obtain⟨K,pk,k1,k2,k3⟩:=zIM hx hD hc hr;have hK:=k3.len_le;have hl:(gl K.length fun i=>cl m.Prime (base x.zA.length x.zA.length*D) R pv (K.getD i []) R.length).length=K.length:=wL;obtain⟨C,pc,c1,c2,c3,_⟩:=uW hD.p (n:=base x.zA.length x.zA.length*D) (rows:=gl K.length fun i=>cl m.Prime (base x.zA.length x.zA.length*D) R pv (K.getD i []) R.length) (by omega) (by omega) (fun i hi=>by rw[hl]at hi;rw[xJ hi];exact(r4 _ (k3.row i hi)).1)
 refine⟨C,pc,K,_,?_,k2,?_,c2,c3,r3⟩
 ·unfold zXw
  rw[r1,bs,k1,bs,wI (body:=zGr m R K) K.length (fun i=>cl m.Prime (base x.zA.length x.zA.length*D) R pv (K.getD i []) R.length) (fun i acc hi ha=>by
   unfold zGr;simp only
   rw[yP hi,zH,yA [] hi,bs,(r4 _ (k3.row i hi)).2.1,bs,zV (by simp only[J7,Jt];omega),bs,zB,bs];rfl) (fun acc=>by
   unfold zGr;simp),bs]
  grind
 ·exact wI (body:=zNS x m K) K.length (fun i=>cl m.Prime (base x.zA.length x.zA.length*D) R pv (K.getD i []) R.length) (fun i acc hi ha=>by
   unfold zNS;simp only
   rw[yP hi,zH,yA [] hi,bs,(r4 _ (k3.row i hi)).2.2,bs,zPg hx hD (r4 _ (k3.row i hi)).1,bs,zV (by simp only[J7,Jt];omega),bs,zB,bs];rfl) (fun acc=>by
   unfold zNS;simp)
end
def zIN(x:SPr):Prop:=0<x.zA.length/\ ∀i,i<x.zA.length->at0 x.zA i=at0 x.zA 0
theorem zNl(h0:0<x.zA.length)(hl:x.zA.length<=1048576){f:Option Bool}{body:Int->Option (Int⊕(Unit⊕Bool))}(hf:f=(zE body 0).bind fun r=>match r with|.inl _=>jf jh|.inr r=>jf r)
  (hb:∀s,body s=cond (decide (s<(x.zA.length:Int))) ((ixO x.zA s).bind fun v2=>(ixO x.zA 0).bind fun v3=>cond (v2 != v3) (jf (.inr (.inr ji))) ((rng (s+1)).bind fun v4=>jf (.inl v4))) (jf (.inr (.inl ())))):IsB f (zIN x):=by
 refine(zAt (body:=body) x.zA.length (fun i=>at0 x.zA i=at0 x.zA 0) hf (fun i hi _=>?_) ?_).iff ⟨fun g=>⟨h0,g⟩,fun g=>g.2⟩
 ·rw[hb,yP hi,zH,yJ hi,bs,show(0:Int)=((0:Nat):Int)from rfl,yJ h0,bs]
  by_cases g:at0 x.zA i=at0 x.zA 0
  ·rw[zAu g,zK,zB,bs]
   grind
  grind
 grind
theorem zIO(hl:x.zA.length<=1048576):IsB (zZs x) (uM x/\zIN x):=by
 unfold zZs;rcases zDR hl with⟨h1,h2⟩|⟨h1,h2⟩
 ·rw[h1,bs,Kb,zK]
  by_cases h0:0<x.zA.length
  ·rw[show(((x.zA.length:Nat):Int)==0)=ji from by grind,zK]
   exact(zNl h0 hl rfl (fun _=>rfl)).iff (by grind)
  ·rw[show(((x.zA.length:Nat):Int)==0)=jh from by grind,zH]
   exact .inr ⟨rfl,fun g=>h0 g.2.1⟩
 ·rw[h1,bs,Ky,zH]
  exact .inr (by grind)
theorem zIP(hl:x.zA.length<=1048576):IsB (zZv x) (uM x/\zIN x):=by
 unfold zZv;rcases qV hl with⟨h1,h2⟩|⟨h1,h2⟩
 ·rw[h1,bs,Kb,zK]
  by_cases h0:0<x.zA.length
  ·rw[show(((x.zA.length:Nat):Int)==0)=ji from by grind,zK]
   exact(zNl h0 hl rfl (fun _=>rfl)).iff (by grind)
  ·rw[show(((x.zA.length:Nat):Int)==0)=jh from by grind,zH]
   exact .inr ⟨rfl,fun g=>h0 g.2.1⟩
 ·rw[h1,bs,Ky,zH]
  exact .inr (by grind)
theorem zIp(hx:zAA x){body:Int×Int->Option ((Int×Int)⊕Int)}
  (hb:∀s:Int×Int,body s=cond (decide (s.2<(x.zA.length:Int))) ((ixO x.zA s.2).bind fun v1=>(rng (s.1*v1)).bind fun v2=>(rng (s.2+1)).bind fun v3=>jf (.inl (v2,v3))) (jf (.inr s.1))):zE body (1,0)=jf (pr x.zA x.zA.length):=by
 have h6:=hx.n6;have hP:∀j,j<x.zA.length->Prime (at0 x.zA j):=fun j hj=>hx.os.2 j hj
 exact zO (body:=body) (r:=pr x.zA x.zA.length) (fun i=>(pr x.zA i,(i:Int))) x.zA.length (fun i hi=>by
  have e1:=zKD hP (x.zA.length-(i+1)) (by omega);rw[show x.zA.length-(x.zA.length-(i+1))=i+1 from by omega]at e1;have e2:=zF8 (os:=x.zA) (i:=i+1) (by grind);have e3:=hx.pr;simp only[pr]at e1 e2;rw[hb];simp only
  rw[yP hi,zH,yJ hi,bs,zB (n:=pr x.zA i*at0 x.zA i),bs,zB,bs];rfl) (by
  grind)
theorem zPh(hl:x.zA.length<=1048576):∃c,zZt x=jf c/\zZw x=jf c/\(c=0->uM x/\zIN x):=by
 unfold zZt zZw;rcases(zDR hl).both (qV hl)with⟨s1,i1,hc⟩|⟨s1,i1,_⟩
 ·rw[s1,i1,bs,bs,Kb,zK,zK]
  rcases(zIO hl).both (zIP hl)with⟨s2,i2,hp⟩|⟨s2,i2,_⟩
  ·rw[s2,i2,bs,bs,Kb,zK,zK]
   unfold yC9 yCA;rw[zIp hc.2.2 (body:=zXv x) (fun _=>rfl),zIp hc.2.2 (body:=zXx x) (fun _=>rfl)];simp only[bs]
   by_cases g:pr x.zA x.zA.length> 81
   ·simp_all
   ·rw[jj g,zK]
    grind
  simp_all
 simp_all
def xQ(q:Int)(D n:Nat):zF:=⟨q,(D:Int),gl n fun _=>idM D⟩
theorem qR{n:Nat}(h:i<n):(xQ q D n).zM.getD i []=idM D:=by rw[xQ,J2,J3 (by grind)];simp[gl]
theorem zJN(hq:Prime q)(h6:x.zA.length<=6)(hD:D<=8:=by omega):f_T x q (D:Int)=jf (xQ q D x.zA.length):=by
 unfold f_T;rw[wI (body:=zL2 x (D:Int)) x.zA.length (fun _=>idM D) (fun i acc hi ha=>by
  unfold zL2;simp only
  rw[yP hi,zH,zOC hq hD,bs,zV (by grind),bs,zB,bs];rfl) (fun acc=>by
  unfold zL2;simp),bs]
 rfl
theorem zPi(hq:Prime q)(h6:x.zA.length<=6)(hD:D<=8:=by omega):zPS x q (D:Int)=jf (xQ q D x.zA.length):=by
 unfold zPS;rw[wI (body:=zGs x q (D:Int)) x.zA.length (fun _=>idM D) (fun i acc hi ha=>by
  unfold zGs;simp only
  rw[yP hi,zH,zAR hq hD,bs,zV (by grind),bs,zB,bs];rfl) (fun acc=>by
  unfold zGs;simp),bs]
 rfl
theorem zFa{n:Nat}(hq:Prime q)(h1:1<=D:=by omega)(h3:D<=3:=by omega):MOk n (xQ q D n) D:=
 ⟨hq,rfl,h1,h3,wL,fun i hi=>by rw[qR hi];exact tL hq.pos.1⟩
theorem zBx{q:Int}{D n:Nat}:∀(w:List Nat){B:Mx},Mat q D B->(∀a∈w,a<n)->wM q D (xQ q D n).zM w B=B
 | [],_,_,_=>rfl
 |a::w,B,hB,hw=>by show wM q D (xQ q D n).zM w (PM q D B ((xQ q D n).zM.getD a []))=B;rw[qR (hw a (by simp)),zC4 hB];exact zBx w hB (by grind)
theorem zCE(h:Pres x)(hq:Prime q):zFF x (xQ q D x.zA.length) D:=by
 have hI:Mat q D (idM D):=tL hq.pos.1;intro i hi;refine⟨?_,fun j hj1 bq=>?_⟩
 ·show wM q D _ _ _=wM q D _ _ _
  rw[zBx _ hI (by grind),zBx _ hI fun a ha=>((tA h (sS h hi) hi).2 a ha).2]
 ·show PM q D _ _=PM q D _ (wM q D _ _ _)
  have:=tA h (uE h (show i<j by omega) bq) hi;rw[qR hi,qR bq,zBx _ hI (by grind)]
theorem zIQ(hc:uM x)(hp:zIN x):∃C pc,zI6 x=jf C/\zZx x=jf C/\Red (at0 x.zA 0) (base x.zA.length x.zA.length) C pc/\base x.zA.length x.zA.length<=21:=by
 have h6:=hc.2.2.n6;have hq:=hc.1.os.2 0 hp.1;have hb:=wA x.zA.length (by omega);obtain⟨C,pc,K,rows,c1,c2,c3,c4,c5,_⟩:=zLk (m:=xQ (at0 x.zA 0) 1 x.zA.length) hc.2.2 (by grind[zFa]) hc.2.1 (zCE hc.1 hq);rw[Lz]at c5;refine⟨C,pc,?_,?_,c5,hb.2.1⟩
 ·unfold zI6 zZu
  rw[show(0:Int)=((0:Nat):Int)from rfl,yJ hp.1,bs,show(1:Int)=((1:Nat):Int)from rfl,zJN hq h6,bs,bs,c1,bs]
 ·unfold zZx
  rw[show(0:Int)=((0:Nat):Int)from rfl,yJ hp.1,bs,show(1:Int)=((1:Nat):Int)from rfl,zPi hq h6,bs,c2,bs];have e:zXy=zNS:=rfl
  grind
theorem zJO:(J1 D (0:Int)).set i 1=mkv D fun j=>if j=i then 1 else 0:=by rw[uD,sP]
theorem zPj(hD:D<=1000):f_v (D:Int)=jf (idM D):=by
 unfold f_v;rw[wI (body:=zFj (D:Int)) D (fun i=>mkv D fun j=>if j=i then 1 else 0) (fun i acc hi ha=>by
  unfold zFj;simp only
  rw[yP hi,zH,yI,bs,vH,K4,if_pos hi,bs,J8,zJO,zV (by grind),bs,zB,bs];rfl) (fun acc=>by
  unfold zFj;simp),bs]
 rfl
theorem zIq{p:Int}(hD:D<=1000):f_O p (D:Int)=jf (zI.mk p (D:Int) (idM D)):=by
 unfold f_O;rw[wI (body:=zLy (D:Int)) D (fun i=>mkv D fun j=>if j=i then 1 else 0) (fun i acc hi ha=>by
  unfold zLy;simp only
  rw[yP hi,zH,yI,bs,vH,K4,if_pos hi,bs,J8,zJO,zV (by grind),bs,zB,bs];rfl) (fun acc=>by
  unfold zLy;simp),bs]
 rfl
theorem zPk(h6:x.zA.length<=6)(hD:D<=1000:=by omega):f_T x q (D:Int)=jf (xQ q D x.zA.length):=by
 unfold f_T;rw[wI (body:=zL2 x (D:Int)) x.zA.length (fun _=>idM D) (fun i acc hi ha=>by
  unfold zL2;simp only
  rw[yP hi,zH,zPj hD,bs,zV (by grind),bs,zB,bs];rfl) (fun acc=>by
  unfold zL2;simp),bs]
 rfl
theorem zPl(h6:x.zA.length<=6)(hD:D<=1000:=by omega):zPS x q (D:Int)=jf (xQ q D x.zA.length):=by
 unfold zPS;rw[wI (body:=zGs x q (D:Int)) x.zA.length (fun _=>idM D) (fun i acc hi ha=>by
  unfold zGs;simp only
  rw[yP hi,zH,zIq hD,bs,zV (by grind),bs,zB,bs];rfl) (fun acc=>by
  unfold zGs;simp),bs]
 rfl
theorem zIr{n:Nat}(hq:Prime q)(h3:D<=30:=by omega):yBB n (xQ q D n) D:=
 ⟨hq,rfl,h3,wL,fun i hi=>by rw[qR hi];exact tL hq.pos.1⟩
def kL(N:Nat)(C:Mx):Mx:=gl N fun i=>mkv C.length fun j=>at0 (C.getD j []) i
theorem zNm{body:List Int×Int->Option ((List Int×Int)⊕List Int)}(n:Nat)(F:Nat->Int)(h:∀i acc,i<n->acc.length=i->body (acc,(i:Int))=jf (.inl (acc++[F i],((i+1:Nat):Int))))(he:∀acc,body (acc,(n:Int))=jf (.inr acc)):
  zE body ([],0)=jf (mkv n F):=wI n F h he
section
variable {q:Int}{N:Nat}{C:Mx} (hC:∀i,i<C.length->Row q N (C.getD i [])) (hl:C.length<=1000)
 include hC hl
theorem zSx(h6:x.zA.length<=6)(hN:N=base x.zA.length x.zA.length):f_U x C=jf (kL N C):=by
 have hb:=wA x.zA.length (by omega);unfold f_U;rw[wI (body:=zX0 x C) N (fun i=>mkv C.length fun j=>at0 (C.getD j []) i) (fun i acc hi ha=>by
  unfold zX0;simp only
  rw[zBC rfl h6,bs,<-hN,yP hi,zH,zNm (body:=zXz C (acc,(i:Int))) C.length (fun j=>at0 (C.getD j []) i) (fun j acc2 hj ha2=>by
   unfold zXz;simp only
   rw[yP hj,zH,yA [] hj,bs,yJ (by rw[(hC j hj).1];exact hi),bs,zV (by simp only[J7,Jt];omega),bs,zB,bs];rfl) (fun acc2=>by
   unfold zXz;simp),bs,zV (by simp only[J7,Jt];omega),bs,zB,bs]
  rfl) (fun acc=>by
  unfold zX0;simp only
  rw[zBC rfl h6,bs,<-hN,tS,zK]),bs]
 rfl
theorem zSy(hN:N<=1000):zE (zTj C (N:Int)) ([],0)=jf (kL N C):=
 wI (body:=zTj C (N:Int)) N (fun i=>mkv C.length fun j=>at0 (C.getD j []) i) (fun i acc hi ha=>by
  unfold zTj;simp only
  rw[yP hi,zH,zNm (body:=zX1 C (acc,(i:Int))) C.length (fun j=>at0 (C.getD j []) i) (fun j acc2 hj ha2=>by
   unfold zX1;simp only
   rw[yP hj,zH,yA [] hj,bs,yJ (by rw[(hC j hj).1];exact hi),bs,zV (by simp only[J7,Jt];omega),bs,zB,bs];rfl) (fun acc2=>by
   unfold zX1;simp),bs,zV (by simp only[J7,Jt];omega),bs,zB,bs]
  rfl) (fun acc=>by
  unfold zTj;simp)
end
theorem zCF{C:Mx}:(kL N C).length=N:=wL
theorem zVF{C:Mx}(i:Nat):((kL N C).getD i []).length<=C.length:=zOP (fun j hj=>by rw[zCF]at hj;rw[kL,xJ hj,zU];simp) i
theorem zGP{p:Int}{r:List Int}(hr:Row p D r):xL p D r (idM D)=r:=by rw[xL];refine Eq.trans (zX fun j hj=>?_) (vJ hr.1).symm;rw[kI (k:=j) hj fun l hl gc=>by rw[ent,zAB hl,zW hj,if_neg (fun h=>gc h.symm),Lo],ent,zAB hj,zW hj,if_pos rfl,L8];exact tQ (hr.2 j hj)
theorem zVG{n:Nat}{v:List Int}(ha:a<n)(hv:Row q D v):stp (xQ q D n) D u v a=uR q D v 1 (u.getD a []):=by
 show uR q D (xL q D v ((xQ q D n).zM.getD a [])) 1 (u.getD a [])=_
 grind[qR,zGP]
section
variable {q:Int} (hq:Prime q) {n D c:Nat} (hc:c<D)
 include hq hc
theorem yEF{v:List Int}(hv:Row q D v):Row q 1 (mkv 1 fun _=>at0 v c):=⟨zU _ _,fun i hi=>by have _:=hq;rw[zW hi];exact hv.2 c hc⟩
end
theorem yCj(h:Pres x):∀rel∈wN x,(∀a∈rel.1,a<x.zA.length)/\ ∀a∈rel.2,a<x.zA.length:=by
 intro rel hr;simp only[wN,Ja,Jc,Ll,Lj,R2]at hr;rcases hr with⟨i,hi,rfl⟩|⟨i,hi,j,hj,rfl⟩
 ·exact⟨fun a ha=>by rw[H2 ha];exact hi,fun a ha=>((tA h (sS h hi) hi).2 a ha).2⟩
 ·have hl:=(h.tl i hi).2.1
  have tq:=(h.tl i hi).2.2 j hj;refine⟨fun a ha=>?_,fun a ha=>?_⟩
  ·simp only[r2,J9,G9,or_false]at ha
   omega
  ·simp only[r2,J9]at ha
   rcases ha with rfl|ha
   ·exact hi
   ·exact((tA h tq hi).2 a ha).2
theorem yEG(hk:k<D)(hD:D<=1000000:=by omega):zWo (D:Int) (k:Int)=jf (vC D k):=qF hk hD
theorem fv0(v:Vec):fv 0 v=v:=by simp[zeros]
section
variable {x:SPr} (h:Pres x) (hc:xC (suf x 0))
 include h hc
theorem g0:Grp (V (suf x 0)) (mul (suf x 0)) (zeros (suf x 0).length):=zCz h (by omega) hc
theorem ok0:Pc.Ok (suf x 0):=by have _:=hc;exact h.okAt (by omega)
theorem zBy{v:Vec}(hv:V (suf x 0) v):v.length=x.zA.length:=by
 have _:=hc;have:=zAQ h (k:=0) (by omega) hv
 rwa [fv0]at this
theorem yEH{a b:Vec}(ha:V (suf x 0) a)(hb:V (suf x 0) b):zLx x a b=jf (mul (suf x 0) a b):=by have:=zDy h (k:=0) (by omega) hc ha hb;simpa only[fv0]using this
theorem tv0{a b:Vec}(ha:V (suf x 0) a)(hb:V (suf x 0) b):f_c x a b=jf (mul (suf x 0) a b):=by have:=zEA h (k:=0) (by omega) hc ha hb;simpa only[fv0]using this
theorem zYI(eL:V (suf x 0) c)(e0:0<=e)(e1:e<=1000):f_Y x c e=jf (pw (mul (suf x 0)) (zeros (suf x 0).length) c e.toNat):=by have:=zHF h (k:=0) (by omega) hc eL e0 e1;simpa only[fv0]using this
theorem yA4{a b:Vec}(ha:V (suf x 0) a)(hb:V (suf x 0) b):∃w,V (suf x 0) w/\mul (suf x 0) (mul (suf x 0) b a) w=mul (suf x 0) a b/\zNV x a b=jf w:=by
 have ok:=ok0 h hc;have G:=g0 h hc;obtain⟨i,i1,i2,i3⟩:=zGj h (k:=0) (by omega) hc ha;obtain⟨c,c1,c2,c3⟩:=qU h (k:=0) (by omega) hc ha hb;simp only[fv0]at i3 c3;refine⟨mul (suf x 0) i c,yO ok i1 c1,?_,?_⟩
 ·rw[G.assoc hb ha (yO ok i1 c1),<-G.assoc ha i1 c1,i2,G.onel c1,c2]
 ·unfold zNV
  rw[i3,bs,c3,bs,yEH h hc i1 c1,bs]
theorem zIs{a b:Vec}(ha:V (suf x 0) a)(hb:V (suf x 0) b):zIX x a b=jf (mul (suf x 0) a b):=by have _:=hc;have:=zE8 h (k:=0) (by omega) a b ha hb;unfold zIX;rw[show f_a x 0 a b=jf (mul (suf x 0) a b)from by simpa[zeros]using this,bs]
theorem yA5(eL:V (suf x 0) c)(e0:0<=e)(e1:e<=1000):zNz x 0 c e=jf (pw (mul (suf x 0)) (zeros (suf x 0).length) c e.toNat):=by
 have h6:=h.os.1;have ok:=ok0 h hc;have G:=g0 h hc;have hA:∀a b,V (suf x 0) a->V (suf x 0) b->f_a x 0 a b=jf (mul (suf x 0) a b):=fun a b ha hb=>by have:=zE8 h (k:=0) (by omega) a b ha hb;simpa[zeros]using this
 have pwV:∀a,V (suf x 0) (pw (mul (suf x 0)) (zeros (suf x 0).length) c a):=fun a=>wV G.toMon eL a
 unfold zNz;rw[yI,bs,zM0 h (k:=0) (by omega),fv0];obtain⟨r,r1,r2⟩:=vZ (body:=zJT x 0) (Q:=fun r=>r=pw (mul (suf x 0)) (zeros (suf x 0).length) c e.toNat)
  (fun s=> ∃(m a q:Nat),s=((m:Int),pw (mul (suf x 0)) (zeros (suf x 0).length) c a,pw (mul (suf x 0)) (zeros (suf x 0).length) c q)/\a+q*m=e.toNat/\m<=1000) (fun s=>s.1.toNat) (fun s hs=>by
   obtain⟨m,a,q,rfl,he,hm⟩:=hs;unfold zJT;simp only
   by_cases dy:m=0
   ·right
    subst dy;rw[show decide (((0:Nat):Int)> 0)=ji from rfl,zK];refine⟨_,rfl,?_⟩;rw[<-he,Nat.mul_zero];rfl
   ·left
    have hr:vD (m:Int) 2=jf ((m%2:Nat):Int):=by unfold vD;rw[if_neg (by decide),Hg (by omega)];rfl
    have hq:vN (m:Int) 2=jf ((m/2:Nat):Int):=by unfold vN;rw[if_neg (by decide),Int.tdiv_eq_ediv_of_nonneg (by omega)];rw[zB];rfl
    have mD:mul (suf x 0) (pw (mul (suf x 0)) (zeros (suf x 0).length) c q) (pw (mul (suf x 0)) (zeros (suf x 0).length) c q)=pw (mul (suf x 0)) (zeros (suf x 0).length) c (q+q):=(zAP G.toMon eL q q).symm;rw[jk,zH,hr,bs];rcases Nat.mod_two_eq_zero_or_one m with h2|h2
    ·rw[h2,show((((0:Nat):Int))==1)=ji from rfl,zK,hA _ _ (pwV q) (pwV q),bs,hq,bs,mD]
     refine⟨_,rfl,⟨m/2,a,q+q,rfl,?_,by omega⟩,by simp only;omega⟩;rw[<-he];have:m=m/2+m/2:=by omega
     have e3:(q+q)*(m/2)=q*m:=by rw[Hv,<-Qt,<-this]
     omega
    ·rw[h2,show((((1:Nat):Int))==1)=jh from rfl,zH,hA _ _ (pwV a) (pwV q),bs,hA _ _ (pwV q) (pwV q),bs,hq,bs,mD,<-zAP G.toMon eL a q]
     refine⟨_,rfl,⟨m/2,a+q,q+q,rfl,?_,by omega⟩,by simp only;omega⟩;rw[<-he];have:m=m/2+m/2+1:=by omega
     have e3:(q+q)*(m/2)+q=q*m:=by
      have e4:q*m=q*(m/2+m/2+1):=by rw[<-this]
      rw[e4,Qt,Qt,Lz,Hv]
     omega) 1000000 (e,(zeros (suf x 0).length),c) (by simp only;omega) ⟨e.toNat,0,1,by rw[zKB G.toMon eL,show((e.toNat:Nat):Int)=e from by omega];rfl,by omega,by omega⟩
 rw[r1,bs,r2]
theorem zVH(eL:V (suf x 0) c)(e0:0<=e)(e1:e<=1000):zI8 x c e=jf (pw (mul (suf x 0)) (zeros (suf x 0).length) c e.toNat):=by unfold zI8;rw[jj (by omega),zK,yA5 h hc eL e0 e1,bs]
theorem yEI(eL:V (suf x 0) c)(e0:0<e)(e1:e<=1000):∃u,V (suf x 0) u/\mul (suf x 0) c u=(zeros (suf x 0).length)/\zI8 x c (-e)=jf (pw (mul (suf x 0)) (zeros (suf x 0).length) u e.toNat):=by obtain⟨u,u1,u2,u3⟩:=zHS h hc eL;refine⟨u,u1,u2,?_⟩;unfold zI8;rw[jk,zH,u3,bs,zB,bs,show(0:Int)- -e=e from by omega,yA5 h hc u1 (by omega) e1,bs]
theorem zVI{a b:Vec}(ha:V (suf x 0) a)(hb:V (suf x 0) b):∃w,V (suf x 0) w/\mul (suf x 0) (mul (suf x 0) b a) w=mul (suf x 0) a b/\zPT x a b=jf w:=by
 have ok:=ok0 h hc;have G:=g0 h hc;have hba:=yO ok hb ha;have fC:=yO ok ha hb;obtain⟨i,i1,i2,i3⟩:=zHS h hc hba;refine⟨mul (suf x 0) i (mul (suf x 0) a b),yO ok i1 fC,?_,?_⟩
 ·rw[<-G.assoc hba i1 fC,i2,G.onel fC]
 ·unfold zPT
  rw[zIs h hc hb ha,bs,i3,bs,zIs h hc ha hb,bs,zIs h hc i1 fC,bs]
theorem zBX:Fil (V (suf x 0)) (mul (suf x 0)) (zeros (suf x 0).length) x.zA.length (fun d=>at0 x.zA d) (fun v d=>at0 v d):=by
 have F:=fil (ok0 h hc) hc;have hl:(suf x 0).length=x.zA.length:=by rw[yC];omega
 have ho:∀d,d<x.zA.length->od (suf x 0) d=at0 x.zA d:=fun d hd=>by unfold od suf;rw[Jw,J3 (by simpa using hd)];simp[lvl]
 exact⟨F.g,fun ha hd=>by have:=F.r ha (by rw[hl];exact hd);rwa [ho _ hd]at this,fun hd=>F.e0 (by rw[hl];exact hd),fun ha hb hh=>F.ex ha hb fun d hd=>hh d (by rw[<-hl];exact hd),
  fun ha hb hd hz=>by have:=F.ad ha hb (by rw[hl];exact hd) hz;rw[ho _ hd]at this;exact this⟩
end
def tbl(b:Mx)(k:Nat):Option Vec:=match b.getD k []with
 | []=>jg
 |v::vs=>jf (v::vs)
theorem qX{b:Mx}{t:Vec}:tbl b k=jf t↔b.getD k []=t/\t≠[]:=by
 unfold tbl;cases b.getD k []with
 |nil=>simp
 |cons v vs=>simp;intro h;rw[<-h];simp
theorem tJ{b:Mx}:tbl b k=jg↔b.getD k []=[]:=by unfold tbl;cases b.getD k []<;>simp
theorem zLl{b:Mx}(hd:d<b.length)(hy:y≠[]):tbl (b.set d y)=fun j=>if j=d then jf y else tbl b j:=by
 funext j
 by_cases h:j=d
 ·subst h
  rw[if_pos rfl,qX,J2,Jaj hd];exact⟨rfl,hy⟩
 ·rw[if_neg h]
  unfold tbl;rw[J2,Jb0 (fun e=>h e.symm),<-J2]
def qC:Mx->Nat
 | []=>0
 | []::b=>qC b+1
 |(_::_)::b=>qC b
theorem zBK:∀b:Mx,qC b<=b.length
 | []=>Je _
 | []::b=>by simp only[qC,J7];have:=zBK b;omega
 |(_::_)::b=>by simp only[qC,J7];have:=zBK b;omega
theorem zIt:∀(b:Mx)(d:Nat)(y:Vec),d<b.length->b.getD d []=[]->y≠[]->qC (b.set d y)+1=qC b
 | [],d,y,h,_,_=>by simp at h
 |v::b,0,y,_,h,hy=>by
  simp at h;subst h;cases y with
  |nil=>exact absurd rfl hy
  |cons a y=>simp[qC]
 |v::b,d+1,y,h,h1,hy=>by have ih:=zIt b d y (by simpa using h) (by simpa using h1) hy;cases v<;>simp only[Lg,qC]<;>omega
theorem zBL{v:List Int}(hl:v.length<=1000:=by omega):∃d:Nat,d<=v.length/\zPU v=jf (d:Int)/\(∀j,j<d->at0 v j=0)/\(d<v.length->at0 v d≠0):=by
 obtain⟨r,r1,r2⟩:=wY (body:=zNU v) (Q:=fun r=>match r with
   |.inl ()=> ∀j,j<v.length->at0 v j=0
   |.inr e=> ∃d:Nat,e=(d:Int)/\d<v.length/\(∀j,j<d->at0 v j=0)/\at0 v d≠0)
  (fun i s=>s=(i:Int)/\ ∀j,j<i->at0 v j=0) v.length (fun i s hi hs=>by
   obtain⟨rfl,hz⟩:=hs;unfold zNU;rw[yP hi,zH,yA 0 hi,bs]
   by_cases h0:at0 v i=0
   ·left
    have cX:v.getD i 0=0:=h0;rw[cX,show((0:Int) != 0)=ji from rfl,zK,zB,bs,cs];refine⟨_,rfl,rfl,fun j hj=>?_⟩
    by_cases e:j=i
    ·rw[e];exact h0
    ·exact hz j (by omega)
   ·right
    have cX:(v.getD i 0 != 0)=jh:=by simpa using h0
    rw[cX,zH];exact⟨_,rfl,i,rfl,hi,hz,h0⟩) (fun s hs=>by
   obtain⟨rfl,hz⟩:=hs;unfold zNU;rw[tS,zK];exact⟨_,rfl,hz⟩) (s:=0) ⟨rfl,fun j hj=>by omega⟩
 unfold zPU;rw[r1,bs];cases r with
 |inl u=>exact⟨v.length,Je _,rfl,r2,fun h=>absurd h (Jam _)⟩
 |inr e=>
  obtain⟨d,rfl,h1,h2,h3⟩:=r2;exact⟨d,by omega,rfl,h2,fun _=>h3⟩
section
variable {x:SPr} (h:Pres x) (hc:xC (suf x 0)) {b:Mx} (hb:b.length=x.zA.length) (hT:Tab (V (suf x 0)) x.zA.length (fun v d=>at0 v d) (tbl b))
 include h hc hb hT
theorem zSz(hy:V (suf x 0) y):∃(z:Vec)(d:Nat),zZ0 ⟨x,b⟩ y=jf (z,⟨x,b⟩)/\Sf (V (suf x 0)) (mul (suf x 0)) (zeros (suf x 0).length) x.zA.length (fun v d=>at0 v d) (tbl b) y z/\
  d<=x.zA.length/\(∀j,j<d->at0 z j=0)/\(d<x.zA.length->at0 z d≠0/\tbl b d=jg):=by
 have h6:=h.os.1;have F:=zBX h hc;obtain⟨d0,a1,a2,a3,a4⟩:=zBL (v:=y) (by rw[zBy h hc hy];omega);rw[zBy h hc hy]at a1 a4;obtain⟨r,r1,_,d,rfl,r3,r4,r5,r6⟩:=vZ (body:=zR9 ⟨x,b⟩)
  (Q:=fun r=> ∃(z:Vec)(d:Nat),r=z/\Sf (V (suf x 0)) (mul (suf x 0)) (zeros (suf x 0).length) x.zA.length (fun v d=>at0 v d) (tbl b) y z/\d<=x.zA.length/\(∀j,j<d->at0 z j=0)/\(d<x.zA.length->at0 z d≠0/\tbl b d=jg))
  (fun s=> ∃(z:Vec)(d:Nat),s=(z,(d:Int))/\Sf (V (suf x 0)) (mul (suf x 0)) (zeros (suf x 0).length) x.zA.length (fun v d=>at0 v d) (tbl b) y z/\d<=x.zA.length/\(∀j,j<d->at0 z j=0)/\(d<x.zA.length->at0 z d≠0))
  (fun s=>x.zA.length-s.2.toNat) (fun s hs=>by
   obtain⟨z,d,rfl,sf,d1,d2,d3⟩:=hs;have hz:=sf.s;have ck:=zBy h hc hz;unfold zR9;simp only
   by_cases hd:d<x.zA.length
   ·rw[show decide ((d:Int)<(z.length:Int))=jh from jk,zH,yA [],bs]
    cases ht:b.getD d []with
    |nil=>
     right;rw[show(!(([]:List Int)).isEmpty)=ji from rfl,zK];exact⟨_,rfl,z,d,rfl,sf,d1,d2,fun _=>⟨d3 hd,tJ.2 ht⟩⟩
    |cons t0 ts=>
     left;have eQ:tbl b d=jf (t0::ts):=qX.2 ⟨ht,by simp⟩;obtain⟨_,t2,t3,t4⟩:=hT.h eQ;have eh:=h.os.2 d hd;have hp7:=eh.pos;have hr:=F.r hz hd;have k1:=F.killl hd t2 t3 t4 hz d2;obtain⟨q1,q2,_⟩:=F.pw1 hd t2 t3 t4 (at0 x.zA d-at0 z d).toNat;obtain⟨s1,s2⟩:=Sf.left F hT hd hz d2 (d3 hd) eQ (fun _ g=>g.pw _) q1 q2 k1;have bS:=s1.s;rw[show(!((t0::ts)).isEmpty)=jh from rfl,zH,bs,yA 0 hd,bs,yA 0,bs];rw[zB (by show _<=at0 x.zA d-at0 z d;omega) (by show at0 x.zA d-at0 z d<=_;omega),bs];rw[show x.zA.getD d 0-z.getD d 0=at0 x.zA d-at0 z d from rfl,zYI h hc t2 (by omega) (by omega),bs,yEH h hc q1 hz,bs,yA 0 (by rw[zBy h hc bS];exact hd),bs];rw[show U7 (mul (suf x 0) (pw (mul (suf x 0)) (zeros (suf x 0).length) (t0::ts) (at0 x.zA d-at0 z d).toNat) z) d 0=0 from k1,show((0:Int) != 0)=ji from rfl,zK];obtain⟨e0,b1,b2,b3,b4⟩:=zBL (v:=mul (suf x 0) (pw (mul (suf x 0)) (zeros (suf x 0).length) (t0::ts) (at0 x.zA d-at0 z d).toNat) z) (by rw[zBy h hc bS];omega);rw[zBy h hc bS]at b1 b4;rw[b2,bs];refine⟨_,rfl,⟨_,e0,rfl,sf.trans s1,b1,b3,b4⟩,?_⟩;have:d<e0:=by apply Classical.byContradiction;intro gc;have:=s2 e0 (by omega);exact b4 (by omega) this
     simp only[J8];omega
   ·right
    rw[show decide ((d:Int)<(z.length:Int))=ji from jj (by omega),zK];exact⟨_,rfl,z,d,rfl,sf,d1,d2,fun hh=>absurd hh hd⟩) 1000 (y,(d0:Int)) (by simp only;omega) ⟨y,d0,rfl,Sf.refl hy,a1,a3,a4⟩
 refine⟨r,d,?_,r3,r4,r5,r6⟩;unfold zZ0;rw[a2,bs,r1,bs]
end
theorem zIu{v:Vec}(h:at0 v d≠0):v≠[]:=by rintro rfl;simp[at0]at h
section
variable {x:SPr} (h:Pres x) (hc:xC (suf x 0)) {b:Mx} (hb:b.length=x.zA.length) (hT:Tab (V (suf x 0)) x.zA.length (fun v d=>at0 v d) (tbl b))
 include h hc hb hT
theorem zS0(hy:V (suf x 0) y){g:List Int×xD}(hg:g.2=⟨x,b⟩)(hQ:Q.length<=100000):
  ∃W:Mx,zE (zTn g y) (Q,0)=jf (Q++W)/\W.length<=x.zA.length/\(∀w∈W,V (suf x 0) w/\ ∃k u,tbl b k=jf u/\mul (suf x 0) (mul (suf x 0) y u) w=mul (suf x 0) u y)/\
   ∀k u,tbl b k=jf u-> ∃w,w∈W/\mul (suf x 0) (mul (suf x 0) y u) w=mul (suf x 0) u y:=by
 have h6:=h.os.1;obtain⟨r,r1,W,rfl,r2,r3,r4⟩:=wY (body:=zTn g y)
  (Q:=fun r=> ∃W:Mx,r=Q++W/\W.length<=x.zA.length/\(∀w∈W,V (suf x 0) w/\ ∃k u,tbl b k=jf u/\mul (suf x 0) (mul (suf x 0) y u) w=mul (suf x 0) u y)/\
   ∀k u,tbl b k=jf u-> ∃w,w∈W/\mul (suf x 0) (mul (suf x 0) y u) w=mul (suf x 0) u y)
  (fun i s=> ∃W:Mx,s=(Q++W,(i:Int))/\W.length<=i/\(∀w∈W,V (suf x 0) w/\ ∃k u,tbl b k=jf u/\mul (suf x 0) (mul (suf x 0) y u) w=mul (suf x 0) u y)/\
   ∀k u,k<i->tbl b k=jf u-> ∃w,w∈W/\mul (suf x 0) (mul (suf x 0) y u) w=mul (suf x 0) u y) x.zA.length (fun i s hi hs=>by
   obtain⟨W,rfl,w1,w2,w3⟩:=hs;left;unfold zTn;simp only[hg];rw[show decide ((i:Int)<(b.length:Int))=jh from jk,zH,yA [],bs];cases ht:b.getD i []with
   |nil=>
    rw[show(!(([]:List Int)).isEmpty)=ji from rfl,zK,zB,bs,cs];refine⟨_,rfl,W,rfl,by omega,w2,fun k u hk hu=>?_⟩
    by_cases e:k=i
    ·subst e
     rw[tJ.2 ht]at hu;cases hu
    ·exact w3 k u (by omega) hu
   |cons t0 ts=>
    have eQ:tbl b i=jf (t0::ts):=qX.2 ⟨ht,by simp⟩;obtain⟨_,t2,_,_⟩:=hT.h eQ;obtain⟨w,v1,v2,v3⟩:=yA4 h hc t2 hy;rw[show(!((t0::ts)).isEmpty)=jh from rfl,zH,v3,bs,zV (by simp only[J5,Jb];omega),bs,zB,bs,cs];refine⟨_,rfl,W++[w],by rw[Jg],by simp only[J5,Jb];omega,fun a ha=>?_,fun k u hk hu=>?_⟩
    ·rcases Ja.1 ha with ha|ha
     ·exact w2 a ha
     ·simp at ha;subst ha
      exact⟨v1,i,_,eQ,v2⟩
    ·by_cases e:k=i
     ·subst e
      rw[eQ]at hu;cases hu;exact⟨w,by simp,v2⟩
     ·obtain⟨a,a1,a2⟩:=w3 k u (by omega) hu
      exact⟨a,by simp[a1],a2⟩) (fun s hs=>by
   obtain⟨W,rfl,w1,w2,w3⟩:=hs;unfold zTn;simp only[hg];rw[show decide ((x.zA.length:Int)<(b.length:Int))=ji from jj (by omega),zK];exact⟨_,rfl,W,rfl,w1,w2,fun k u hu=>w3 k u (hT.h hu).1 hu⟩) (s:=(Q,0)) ⟨[],by simp,Je _,by simp,fun k u hk=>by omega⟩
 exact⟨W,r1,r2,r3,r4⟩
end
section
variable {x:SPr} (h:Pres x) (hc:xC (suf x 0))
 include h hc
abbrev WlB(x:SPr)(L:Vec->Prop)(b:Mx)(Q:Mx):Prop:=Wl (V (suf x 0)) (mul (suf x 0)) (zeros (suf x 0).length) x.zA.length (fun d=>at0 x.zA d) (fun v d=>at0 v d) L (tbl b) Q
theorem zVJ{L:Vec->Prop}(hL:∀a,L a->V (suf x 0) a){b:Mx}(hb:b.length=x.zA.length){g:Bool}{q:Vec}(hW:WlB x L b (q::Q))(hQ:Q.length<=10000):
  ∃(b':Mx)(g':Bool)(Q':Mx),zTo (x,b,g,q::Q)=jf (.inl (x,b',g',Q'))/\b'.length=x.zA.length/\WlB x L b' Q'/\
   (b'=b/\Q'=Q/\g'=g\/qC b'+1=qC b/\Q'.length<=Q.length+x.zA.length+2/\g'=jh):=by
 have h6:=h.os.1;have F:=zBX h hc;have G:=g0 h hc;have hq:=hW.q q (by simp);obtain⟨z,d,s1,sf,s3,s4,s5⟩:=zSz h hc hb hW.t hq.1;have hz:=sf.s;have ck:=zBy h hc hz;obtain⟨d',d1,d2,d3,d4⟩:=zBL (v:=z);rw[ck]at d1 d4;have iR:d'=d:=by
  rcases G1 d' d with g|g|g
  ·exact absurd (s4 d' g) (d4 (by omega))
  ·exact g
  ·exact absurd (d3 d g) (s5 (by omega)).1
 subst iR;unfold zTo;simp only
 rw[show decide (((q::Q).length:Int)> 0)=jh from jk (by simp only[J7];omega),zH];rw[show ixO (q::Q) (0:Int)=jf q from rfl,bs,s1,bs];rw[show zS (q::Q) 1 ((q::Q).length:Int)=jf Q from by unfold zS;rw[if_pos ⟨by omega,by simp only[J7];omega,Int.le_refl _⟩];simp,bs]
 dsimp only
 rw[d2,bs]
 by_cases hd:d'<x.zA.length
 ·obtain⟨n1,n2⟩:=s5 hd
  have eh:=h.os.2 d' hd;have hp7:=eh.pos;have hr:=F.r hz hd;obtain⟨v,v1,v2,v3,v4⟩:=zBA eh (x:=at0 z d') (by have:=hr.1;omega) (by have:=hr.2;omega);have px:V (suf x 0) (pw (mul (suf x 0)) (zeros (suf x 0).length) z v.toNat):=wV G.toMon hz _;obtain⟨y,pt⟩:∃y,y=pw (mul (suf x 0)) (zeros (suf x 0).length) z v.toNat:=⟨_,rfl⟩;rw[<-pt]at px;have mT:=F.pwc hd hz s4 v.toNat;rw[<-pt]at mT;have eE:at0 y d'=1:=by have:=mT.2;rw[this,show((v.toNat:Nat):Int)=v from by omega,Gy];exact v4
  have ab:V (suf x 0) (pw (mul (suf x 0)) (zeros (suf x 0).length) y (at0 x.zA d').toNat):=wV G.toMon px _;have cK:y≠[]:=zIu (d:=d') (by rw[eE];decide);rw[show(((d':Nat):Int)==(z.length:Int))=ji from by simp;omega,zK,yA 0,bs,yA 0 hd,bs];rw[show z.getD d' 0=at0 z d' from rfl,show x.zA.getD d' 0=at0 x.zA d' from rfl,v1,bs,zV (by simp only[Jb];omega),bs];simp only
  rw[zYI h hc hz v2 (by omega),bs,bs,<-pt,zYI h hc px (by omega) (by omega),bs,zV (by simp only[J5,Jb];omega),bs];obtain⟨W,W1,W2,W3,W4⟩:=zS0 h hc hb hW.t px (g:=(z,⟨x,b⟩)) rfl (Q:=Q++[z]++[pw (mul (suf x 0)) (zeros (suf x 0).length) y (at0 x.zA d').toNat]) (by simp only[J5,Jb];omega);rw[W1,bs,yA [],bs,show neO y=jf ()from by cases y with
   |nil=>exact absurd rfl cK
   |cons _ _=>rfl,bs]
  refine⟨_,_,_,rfl,by rw[Hf];exact hb,?_,.inr ⟨zIt b d' y (by omega) (tJ.1 n2) cK,by simp only[J5,Jb];omega,rfl⟩⟩;rw[show((d':Nat):Int).toNat=d' from rfl];have gv:=zLl (b:=b) (d:=d') (y:=y) (by omega) cK;have a9:Gen (V (suf x 0)) (mul (suf x 0)) (zeros (suf x 0).length) L z:=sf.h L hL hW.th hq.2;have py:Gen (V (suf x 0)) (mul (suf x 0)) (zeros (suf x 0).length) L y:=by rw[pt];exact a9.pw _
  rw[WlB,gv];refine Wl.add F hW hd n2 px py mT.1 eE (x:=q) (fun k hk=>?_) (fun a ha=>?_) (fun a ha=>?_) (by simp) (fun k u hu=>?_)
  ·have j7:∀k t,tbl b k=jf t->(fun j=>if j=d' then jf y else tbl b j) k=jf t:=fun k t hk=>by
    show(if k=d' then jf y else tbl b k)=jf t;rw[if_neg]
    ·exact hk
    ·intro e;rw[e,n2]at hk;cases hk
   have ja:∀a∈Q++[z]++[pw (mul (suf x 0)) (zeros (suf x 0).length) y (at0 x.zA d').toNat]++W,V (suf x 0) a:=fun a ha=>by
    simp only[Ja,List.mem_singleton]at ha;rcases ha with((ha|rfl)|rfl)|ha
    ·exact(hW.q a (by simp[ha])).1
    ·exact hz
    ·exact ab
    ·exact(W3 a ha).1
   have:=sf.g k (Q++[z]++[pw (mul (suf x 0)) (zeros (suf x 0).length) y (at0 x.zA d').toNat]++W) ja hk (.x (.inr ⟨by simp,fun j hj fL=>sf.d k hk j hj fL⟩));exact this.tr j7 fun a ha k hk=>.x (.inr ⟨ha,hk⟩)
  ·simp only[Ja,List.mem_singleton]at ha
   rcases ha with((ha|rfl)|rfl)|ha
   ·exact hW.q a (by simp[ha])
   ·exact⟨hz,a9⟩
   ·exact⟨ab,py.pw _⟩
   ·obtain⟨a1,k,u,a2,a3⟩:=W3 a ha
    have hu:=(hW.t.h a2).2.1;refine⟨a1,Gen.right G hL (.m py (hW.th a2)) a1 ?_⟩;rw[a3];exact .m (hW.th a2) py
  ·simp only[J9]at ha
   rcases ha with rfl|ha
   ·exact .inl rfl
   ·exact .inr (by simp[ha])
  ·obtain⟨w,w1,w2⟩:=W4 k u hu
   exact⟨w,by simp[w1],.inr w2⟩
 ·rw[show(((d':Nat):Int)==(z.length:Int))=jh from by simp;omega,zH]
  refine⟨b,g,Q,rfl,hb,?_,.inl ⟨rfl,rfl,rfl⟩⟩;have dL:z=zeros (suf x 0).length:=F.ex hz G.ein fun j hj=>by have e0:=F.e0 hj;rw[e0,s4 j (by omega)]
  refine Wl.drop hW (x:=q) (fun k hk=>?_) (fun a ha=>by simp[ha]) (fun a ha=>by simpa using ha);exact sf.g k Q (fun a ha=>(hW.q a (by simp[ha])).1) hk (by rw[dL];exact .one)
theorem zJP{L:Vec->Prop}(hL:∀a,L a->V (suf x 0) a){b:Mx}(hb:b.length=x.zA.length)(hW:WlB x L b M)(hM:M.length<=1000):
  ∃(g:Bool)(b':Mx),f_E ⟨x,b⟩ M=jf (g,⟨x,b'⟩)/\b'.length=x.zA.length/\WlB x L b' []/\(b'=b/\g=ji\/qC b'<qC b/\g=jh):=by
 have h6:=h.os.1;obtain⟨r,r1,b',g,rfl,r2,r3,r4⟩:=vZ (body:=zTo) (Q:=fun r=> ∃(b':Mx)(g:Bool),r=(x,b',g)/\b'.length=x.zA.length/\WlB x L b' []/\(b'=b/\g=ji\/qC b'<qC b/\g=jh))
  (fun s=> ∃(b1:Mx)(g:Bool)(Q:Mx),s=(x,b1,g,Q)/\b1.length=x.zA.length/\WlB x L b1 Q/\qC b1*20+Q.length<=2000/\(b1=b/\g=ji\/qC b1<qC b/\g=jh)) (fun s=>qC s.2.1*20+s.2.2.2.length) (fun s hs=>by
   obtain⟨b1,g,Q,rfl,hb,hW,hm,hg⟩:=hs;cases Q with
   |nil=>
    right;unfold zTo;simp only
    rw[show decide ((([]:Mx).length:Int)> 0)=ji from rfl,zK];exact⟨_,rfl,b1,g,rfl,hb,hW,hg⟩
   |cons q Q=>
    left;simp only[J7]at hm;obtain⟨b',g',Q',e1,e2,e3,e4⟩:=zVJ h hc hL hb hW (g:=g) (by omega);refine⟨_,e1,⟨b',g',Q',rfl,e2,e3,?_,?_⟩,?_⟩
    ·rcases e4 with⟨rfl,rfl,_⟩|⟨e4,e5,_⟩<;>omega
    ·rcases e4 with⟨rfl,rfl,rfl⟩|⟨e4,e5,rfl⟩
     ·exact hg
     ·right
      refine⟨?_,rfl⟩;rcases hg with⟨rfl,_⟩|⟨hg,_⟩<;>omega
    ·simp only[J7]
     rcases e4 with⟨rfl,rfl,_⟩|⟨e4,e5,_⟩<;>omega) 100000 (x,b,ji,M) (by have:=zBK b;simp only;omega) ⟨b,ji,M,rfl,hb,hW,by have:=zBK b;omega,.inl ⟨rfl,rfl⟩⟩
 refine⟨g,b',?_,r2,r3,r4⟩;unfold f_E zX4;rw[zV (by simp only[Jt];omega),bs,bs,K0,r1,bs]
theorem zNn{L:Vec->Prop}(hL:∀a,L a->V (suf x 0) a){b:Mx}(hb:b.length=x.zA.length)(hW:WlB x L b M)(hM:M.length<=1000):
  ∃(g:Bool)(b':Mx),f_E ⟨x,b⟩ M=jf (g,⟨x,b'⟩)/\b'.length=x.zA.length/\WlB x L b' []:=by
 obtain⟨g,b',e1,e2,e3,_⟩:=zJP h hc hL hb hW hM;exact⟨g,b',e1,e2,e3⟩
end
def wB(C:Nat->Option Vec)(k l:Nat):Mx:=(K7 k l).filterMap C
def zFb(C:Nat->Option Vec)(k l:Nat):List Int:=(K7 k l).filterMap fun j=>(C j).map fun _=>(j:Int)
theorem zFc(h:C k=jg):wB C k (l+1)=wB C (k+1) l:=by simp only[wB,Ho,Hk,h]
theorem zFd{t:Vec}(h:C k=jf t):wB C k (l+1)=t::wB C (k+1) l:=by simp only[wB,Ho,Hk,h]
theorem zJQ(h:C k=jg):zFb C k (l+1)=zFb C (k+1) l:=by simp only[zFb,Ho,Hk,h,Jac]
theorem zJR{t:Vec}(h:C k=jf t):zFb C k (l+1)=(k:Int)::zFb C (k+1) l:=by simp only[zFb,Ho,Hk,h,He]
theorem zFe{C D:Nat->Option Vec}:∀(l k:Nat),(∀j,k<=j->C j=D j)->wB C k l=wB D k l
 |0,_,_=>rfl
 |l+1,k,h=>by
  have ih:=zFe l (k+1) fun j hj=>h j (by omega)
  cases hc:C k with
  |none=>rw[zFc hc,zFc (by rw[<-h k (Je _)];exact hc),ih]
  |some t=>rw[zFd hc,zFd (by rw[<-h k (Je _)];exact hc),ih]
theorem zCG(C:Nat->Option Vec)(k l:Nat):(wB C k l).length<=l:=by
 have:=List.length_filterMap_le C (K7 k l)
 rwa [Ja0]at this
theorem zLm{α:Type}{u:List α}{a:α}{v:List α}(h:u.drop i=a::v):i<u.length/\ixO u (i:Int)=jf a/\u.drop (i+1)=v:=by
 have hi:i<u.length:=by apply Classical.byContradiction;intro g;rw[Uo (by omega)]at h;cases h
 rw[Hq hi]at h;injection h with h1 h2;exact⟨hi,by rw[vH,J3 hi,h1],h2⟩
theorem zS1{v:List Int}(hd:d<v.length)(hl:v.length<=1000)(hz:∀j,j<d->at0 v j=0)(h1:at0 v d=1):zSR v=jf (d:Int):=by
 obtain⟨r,r1,rfl⟩:=wY (body:=zGq v) (Q:=fun r=>r=.inr (d:Int)) (fun i s=>s=(i:Int)) d (fun i s hi hs=>by
  subst hs;left;unfold zGq zSQ;rw[yP,zH,yA 0,bs,bs,show v.getD i 0=0 from hz i hi,show((0:Int) != 0)=ji from rfl,zK,zB,bs,cs];exact⟨_,rfl,rfl⟩) (fun s hs=>by
  subst hs;unfold zGq zSQ;rw[yP hd,zH,yA 0 hd,bs,bs,show v.getD d 0=1 from h1,show((1:Int) != 0)=jh from rfl,zH];exact⟨_,rfl,rfl⟩) (s:=0) rfl
 unfold zSR;rw[r1,bs]
section
variable {x:SPr} (h:Pres x) (hc:xC (suf x 0)) {C:Nat->Option Vec} (hC:∀{j t},C j=jf t->j<x.zA.length/\V (suf x 0) t/\(∀i,i<j->at0 t i=0)/\at0 t j=1)
 include h hc hC
theorem zIv:∀(l k i:Nat)(u:Mx)(acc:List Int),k+l=x.zA.length->u.drop i=wB C k l->u.length<=1000->acc.length<=i->i<=u.length->zE (zIW u) (acc,(i:Int))=jf (acc++zFb C k l)
 |0,k,i,u,acc,hk,hu,hl,ha,hi=>by
  have:i=u.length:=by have:=congrArg Qf hu;rw[Kl]at this;simp[wB]at this;omega
  subst this;rw[yQ];unfold zIW;simp only
  rw[tS,zK];simp[zFb]
 |l+1,k,i,u,acc,hk,hu,hl,ha,hi=>by
  have h6:=h.os.1;cases ht:C k with
  |none=>
   rw[zFc ht]at hu;rw[zJQ ht];exact zIv l (k+1) i u acc (by omega) hu hl ha hi
  |some t=>
   rw[zFd ht]at hu;obtain⟨a1,a2,a3⟩:=zLm hu;obtain⟨c1,c2,c3,c4⟩:=hC ht;have eM:=zBy h hc c2;rw[yQ];unfold zIW;simp only
   rw[yP a1,zH,a2,bs,zS1 (by omega) (by omega) c3 c4,bs,zV (by simp only[Jb];omega),bs,zB,bs,cs];have:=zIv l (k+1) (i+1) u (acc++[(k:Int)]) (by omega) a3 hl (by simp only[J5,Jb];omega) (by omega);unfold zIW at this;simp only at this ⊢
   rw[this,zJR ht,Jg];rfl
theorem zVK(k l:Nat)(hk:k+l=x.zA.length):f_Q (wB C k l)=jf (zFb C k l):=by have h6:=h.os.1;have:=zIv h hc hC l k 0 (wB C k l) [] hk rfl (by have:=zCG C k l;omega) (by simp) (by omega);unfold f_Q;rw[show zE (zIW (wB C k l)) ([],0)=jf (zFb C k l)from by simpa using this,bs]
theorem zS2{s:List Int×Int}{t:Vec}(ht:C j=jf t)(hu:ixO u s.2=jf t)(hy:V (suf x 0) y):∃z,(∀{Y:Vec->Prop},Gen (V (suf x 0)) (mul (suf x 0)) (zeros (suf x 0).length) Y t->Gen (V (suf x 0)) (mul (suf x 0)) (zeros (suf x 0).length) Y z)/\
  V (suf x 0) z/\(∀i,i<j->at0 z i=0)/\at0 (mul (suf x 0) y z) j=0/\zE (zTp x u s (j:Int)) y=jf (mul (suf x 0) y z):=by
 have F:=zBX h hc;have G:=g0 h hc;obtain⟨c1,c2,c3,c4⟩:=hC ht;have hr:=F.r hy c1;have eh:=(h.os.2 j c1).pos;obtain⟨n,hn⟩:∃n:Nat,(at0 y j=0/\n=0)\/(at0 y j≠0/\(n:Int)=at0 x.zA j-at0 y j):=by
  by_cases e:at0 y j=0
  ·exact⟨0,.inl ⟨e,rfl⟩⟩
  ·exact⟨(at0 x.zA j-at0 y j).toNat,.inr ⟨e,by omega⟩⟩
 have hp:=fun a=>F.pw1 c1 c2 c3 c4 a
 have iT:∀a,at0 (mul (suf x 0) y (pw (mul (suf x 0)) (zeros (suf x 0).length) t a)) j=(at0 y j+a)%at0 x.zA j:=fun a=>by have:=(F.ad hy (hp a).1 c1 (hp a).2.1).2;rw[this,(hp a).2.2,Int.add_emod_emod]
 have hV:∀a,V (suf x 0) (mul (suf x 0) y (pw (mul (suf x 0)) (zeros (suf x 0).length) t a)):=fun a=>G.cl hy (hp a).1
 refine⟨pw (mul (suf x 0)) (zeros (suf x 0).length) t n,fun g=>g.pw n,(hp n).1,(hp n).2.1,?_,?_⟩
 ·rw[iT]
  rcases hn with⟨e,rfl⟩|⟨e,hn⟩
  ·rw[e];simp
  ·rw[hn,show at0 y j+(at0 x.zA j-at0 y j)=at0 x.zA j from by omega,Jap]
 ·have:=zO (body:=zTp x u s (j:Int)) (r:=mul (suf x 0) y (pw (mul (suf x 0)) (zeros (suf x 0).length) t n)) (fun a=>mul (suf x 0) y (pw (mul (suf x 0)) (zeros (suf x 0).length) t a)) n (fun a ha=>by
   have dr:=hV a;unfold zTp;rw[yA 0 (by rw[zBy h hc dr];exact c1),bs];rw[show U7 (mul (suf x 0) y (pw (mul (suf x 0)) (zeros (suf x 0).length) t a)) j 0=(at0 y j+a)%at0 x.zA j from iT a];have gc:(at0 y j+a)%at0 x.zA j≠0:=by
    rcases hn with⟨e,rfl⟩|⟨e,hn⟩
    ·omega
    ·rw[Jq (by omega) (by omega)];omega
   rw[show((at0 y j+a)%at0 x.zA j != 0)=jh from by simpa using gc,zH,hu,bs,tv0 h hc dr c2,bs];have e1:mul (suf x 0) (mul (suf x 0) y (pw (mul (suf x 0)) (zeros (suf x 0).length) t a)) t=mul (suf x 0) y (pw (mul (suf x 0)) (zeros (suf x 0).length) t (a+1)):=by
    rw[G.assoc hy (hp a).1 c2]
    congr 1
    rw[pw,pw,xR]
   rw[e1]) (by
   have dr:=hV n;unfold zTp;rw[yA 0 (by rw[zBy h hc dr];exact c1),bs];rw[show U7 (mul (suf x 0) y (pw (mul (suf x 0)) (zeros (suf x 0).length) t n)) j 0=0 from by
    have:=iT n;rw[show U7 (mul (suf x 0) y (pw (mul (suf x 0)) (zeros (suf x 0).length) t n)) j 0=(at0 y j+n)%at0 x.zA j from this];rcases hn with⟨e,rfl⟩|⟨e,hn⟩
    ·rw[e];simp
    ·rw[hn,show at0 y j+(at0 x.zA j-at0 y j)=at0 x.zA j from by omega,Jap]]
   rw[show((0:Int) != 0)=ji from rfl,zK])
  have e0:mul (suf x 0) y (pw (mul (suf x 0)) (zeros (suf x 0).length) t 0)=y:=G.oner hy;rw[e0]at this;exact this
theorem zPm{L:Vec->Prop}{d:Nat}(hL:∀{j t},C j=jf t->Gen (V (suf x 0)) (mul (suf x 0)) (zeros (suf x 0).length) L t){u:Mx}{P:List Int}:∀(l k i:Nat)(y:Vec),d<k->k+l=x.zA.length->u.drop i=wB C k l->P.drop i=zFb C k l->i<=P.length->i+l<=1000->
  Rd (V (suf x 0)) (mul (suf x 0)) (zeros (suf x 0).length) x.zA.length (fun v j=>at0 v j) L C d k y->
  ∃r,zE (zPV x u P) (y,(i:Int))=jf r/\Rd (V (suf x 0)) (mul (suf x 0)) (zeros (suf x 0).length) x.zA.length (fun v j=>at0 v j) L C d x.zA.length r
 |0,k,i,y,hdk,hk,hu,hP,hi,eR,hR=>by
  have:i=P.length:=by have:=congrArg Qf hP;rw[Kl]at this;simp[zFb]at this;omega
  subst this;have e:k=x.zA.length:=by omega
  rw[e]at hR;refine⟨y,?_,hR⟩;rw[yQ];unfold zPV;simp only
  rw[tS,zK]
 |l+1,k,i,y,hdk,hk,hu,hP,hi,eR,hR=>by
  have h6:=h.os.1;have F:=zBX h hc;cases ht:C k with
  |none=>
   rw[zFc ht]at hu;rw[zJQ ht]at hP;exact zPm hL l (k+1) i y (by omega) (by omega) hu hP hi (by omega) (hR.skip (.inl ht))
  |some t=>
   rw[zFd ht]at hu;rw[zJR ht]at hP;obtain⟨a1,a2,a3⟩:=zLm hu;obtain⟨p1,p2,p3⟩:=zLm hP;obtain⟨z,z1,z2,z3,z4,z5⟩:=zS2 h hc hC (u:=u) (s:=(y,(i:Int))) ht a2 hR.s;have dF:=hR.step F hdk (by omega) z2 (z1 (hL ht)) z3 z4;obtain⟨r,r1,r2⟩:=zPm hL l (k+1) (i+1) _ (by omega) (by omega) a3 p3 (by omega) (by omega) dF;have cx:zPV x u P (y,(i:Int))=jf (.inl (mul (suf x 0) y z,((i+1:Nat):Int))):=by
    unfold zPV;simp only
    rw[yP p1,zH,p2,bs,z5,bs,zB,bs,cs]
   exact⟨r,by rw[yQ,cx];exact r1,r2⟩
end
section
variable {x:SPr} (h:Pres x) (hc:xC (suf x 0))
abbrev vS(x:SPr)(L:Vec->Prop):Vec->Prop:=Gen (V (suf x 0)) (mul (suf x 0)) (zeros (suf x 0).length) L
abbrev zAz(x:SPr)(L:Vec->Prop)(C:Nat->Option Vec):Prop:=Pc.Can (e:=zeros (suf x 0).length) (V (suf x 0)) x.zA.length (fun v j=>at0 v j) (vS x L) C
structure CI (x:SPr) (L:Vec->Prop) (b:Mx) (d:Nat) (C:Nat->Option Vec):Prop where
 c:∀{j t},C j=jf t->j<x.zA.length/\V (suf x 0) t/\(∀i,i<j->at0 t i=0)/\at0 t j=1
 lo:∀{j t},C j=jf t->d<=j
 g:∀{j t},C j=jf t->vS x L t
 r:∀{j t},C j=jf t-> ∀i,j<i->i<x.zA.length->(C i).isSome=jh->at0 t i=0
 s:∀j,d<=j->(C j).isSome=(tbl b j).isSome
theorem CI.put{L:Vec->Prop}{b:Mx}(hI:CI x L b (d+1) C)(hd:d<x.zA.length){t r:Vec}(ht:tbl b d=jf t)(hr:Rd (V (suf x 0)) (mul (suf x 0)) (zeros (suf x 0).length) x.zA.length (fun v j=>at0 v j) L C d x.zA.length r):
  CI x L b d (fun j=>if j=d then jf r else C j)/\wB (fun j=>if j=d then jf r else C j) d (x.zA.length-d)=r::wB C (d+1) (x.zA.length-(d+1)):=by
 have key:∀{j t},(if j=d then jf r else C j)=jf t->(j=d/\t=r)\/(j≠d/\C j=jf t):=fun{j t} hj=>by
  split at hj
  ·rename_i e;cases hj;exact .inl ⟨e,rfl⟩
  ·rename_i e;exact .inr ⟨e,hj⟩
 refine⟨⟨fun hj=>?_,fun hj=>?_,fun hj=>?_,fun hj i hi gK mQ=>?_,fun j hj=>?_⟩,?_⟩
 ·rcases key hj with⟨rfl,rfl⟩|⟨_,e⟩
  ·exact⟨hd,hr.s,hr.z,hr.o⟩
  ·exact hI.c e
 ·rcases key hj with⟨rfl,rfl⟩|⟨_,e⟩
  ·exact Je _
  ·have:=hI.lo e;omega
 ·rcases key hj with⟨rfl,rfl⟩|⟨_,e⟩
  ·exact hr.l
  ·exact hI.g e
 ·replace mQ:(if i=d then jf r else C i).isSome=jh:=mQ
  rcases key hj with⟨rfl,rfl⟩|⟨_,e⟩
  ·rw[if_neg (by omega)]at mQ
   exact hr.r i hi gK mQ
  ·have:=hI.lo e
   rw[if_neg (by omega)]at mQ;exact hI.r e i hi gK mQ
 ·show(if j=d then jf r else C j).isSome=_
  by_cases e:j=d
  ·subst e;rw[if_pos rfl,ht];rfl
  ·rw[if_neg e];exact hI.s j (by omega)
 ·rw[show x.zA.length-d=(x.zA.length-(d+1))+1 from by omega,zFd (t:=r) (by simp)]
  congr 1
  exact zFe _ _ fun j hj=>by rw[if_neg (by omega)]
theorem CI.skip{L:Vec->Prop}{b:Mx}(hI:CI x L b (d+1) C)(hd:d<x.zA.length)(ht:tbl b d=jg):CI x L b d C/\wB C d (x.zA.length-d)=wB C (d+1) (x.zA.length-(d+1)):=by
 have hn:C d=jg:=by
  cases e:C d with
  |none=>rfl
  |some t=>have:=hI.lo e;omega
 refine⟨⟨hI.c,fun e=>by have:=hI.lo e;omega,hI.g,hI.r,fun j hj=>?_⟩,?_⟩
 ·by_cases e:j=d
  ·subst e;rw[hn,ht]
  ·exact hI.s j (by omega)
 ·rw[show x.zA.length-d=(x.zA.length-(d+1))+1 from by omega,zFc hn]
theorem CI.start{L:Vec->Prop}{b:Mx}(hb:b.length=x.zA.length):CI x L b x.zA.length (fun _=>jg):=
 ⟨(fun e=>by cases e),(fun e=>by cases e),(fun e=>by cases e),(fun e=>by cases e),fun j hj=>by rw[tJ.2 (by rw[J2,Li (by omega)];rfl)]⟩
 include h hc
theorem CI.can{L:Vec->Prop}{b:Mx}(hI:CI x L b 0 C)(hW:WlB x L b []):zAz x L C:=
 Wl.can (zBX h hc) hW (fun k=>hI.s k (by omega)) fun{k t} e=>by obtain⟨c1,c2,c3,c4⟩:=hI.c e;exact⟨hI.g e,c2,c3,c4,hI.r e⟩
theorem zVL{L:Vec->Prop}{b:Mx}(hI:CI x L b (d+1) C)(hd:d<x.zA.length){t:Vec}(hT:V (suf x 0) t)(hg:vS x L t)(hz:∀i,i<d->at0 t i=0)(h1:at0 t d=1):
  ∃r,f_M x (wB C (d+1) (x.zA.length-(d+1))) t=jf r/\Rd (V (suf x 0)) (mul (suf x 0)) (zeros (suf x 0).length) x.zA.length (fun v j=>at0 v j) L C d x.zA.length r:=by
 have h6:=h.os.1;have gy:f_B t=jf t:=by
  have:=zHE h (k:=0) (by omega) hc hT
  rwa [fv0]at this
 obtain⟨r,r1,r2⟩:=zPm h hc (C:=C) (fun e=>hI.c e) (L:=L) (d:=d) (fun e=>hI.g e) (u:=wB C (d+1) (x.zA.length-(d+1))) (P:=zFb C (d+1) (x.zA.length-(d+1))) (x.zA.length-(d+1)) (d+1) 0 t (by omega) (by omega) rfl rfl (by omega) (by omega)
  ⟨hT,hg,hz,h1,fun i hi eR=>by omega⟩
 refine⟨r,?_,r2⟩;unfold f_M;rw[gy,bs,zVK h hc (C:=C) (fun e=>hI.c e) (d+1) _ (by omega),bs];have r1':zE (zPV x (wB C (d+1) (x.zA.length-(d+1))) (zFb C (d+1) (x.zA.length-(d+1)))) (t,0)=jf r:=r1;rw[r1',bs]
theorem zEc{L:Vec->Prop}{b:Mx}(hb:b.length=x.zA.length)(hW:WlB x L b []):∃C,zTq ⟨x,b⟩=jf (wB C 0 x.zA.length)/\zAz x L C:=by
 have h6:=h.os.1;obtain⟨r,r1,C,rfl,r2⟩:=vZ (body:=zRA ⟨x,b⟩) (Q:=fun r=> ∃C,r=wB C 0 x.zA.length/\CI x L b 0 C)
  (fun s=> ∃(d:Nat)(C:Nat->Option Vec),s=(wB C d (x.zA.length-d),(d:Int)-1)/\d<=x.zA.length/\CI x L b d C) (fun s=>(s.2+1).toNat) (fun s hs=>by
   obtain⟨d,C,rfl,hd,hI⟩:=hs;unfold zRA;simp only
   cases d with
   |zero=>
    right;rw[show decide (((0:Nat):Int)-1>=0)=ji from rfl,zK];exact⟨_,rfl,C,rfl,hI⟩
   |succ d=>
    left;rw[show(((d+1:Nat):Int)-1)=(d:Int)from by omega,show decide ((d:Int)>=0)=jh from jk,zH,yA [],bs];cases ht:b.getD d []with
    |nil=>
     obtain⟨i1,i2⟩:=hI.skip (by omega) (tJ.2 ht);rw[show(!(([]:List Int)).isEmpty)=ji from rfl,zK,zB,bs];exact⟨_,rfl,⟨d,C,by rw[i2],by omega,i1⟩,by simp only;omega⟩
    |cons t0 ts=>
     have eQ:tbl b d=jf (t0::ts):=qX.2 ⟨ht,by simp⟩;obtain⟨t1,t2,t3,t4⟩:=hW.t.h eQ;obtain⟨r,e1,e2⟩:=zVL h hc hI (by omega) t2 (hW.th eQ) t3 t4;obtain⟨i1,i2⟩:=hI.put (by omega) eQ e2;rw[show(!((t0::ts)).isEmpty)=jh from rfl,zH,bs,e1,bs,zV (by have:=zCG C (d+1) (x.zA.length-(d+1));simp only[Jb];omega),bs,zB,bs];exact⟨_,rfl,⟨d,_,by rw[i2];rfl,by omega,i1⟩,by simp only;omega⟩) 1000 ([],(x.zA.length:Int)-1) (by simp only;omega) ⟨x.zA.length,fun _=>jg,by simp[wB],Je _,CI.start hb⟩
 refine⟨C,?_,r2.can h hc hW⟩;unfold zTq;simp only
 rw[hb,zB,bs,r1,bs]
theorem zFU(hM:∀a∈M,V (suf x 0) a):WlB x (· ∈M) (J1 x.zA.length []) M:=by
 have e:tbl (J1 x.zA.length [])=fun _=>jg:=by
  funext k
  rw[tJ,J2,K4];split<;>rfl
 have _:=h;have _:=hc;rw[WlB,e];exact Wl.start M hM
theorem zIw(hM:∀a∈M,V (suf x 0) a)(hl:M.length<=1000):∃C,zX5 x M=jf (wB C 0 x.zA.length)/\zAz x (· ∈M) C:=by have h6:=h.os.1;obtain⟨g,b,e1,e2,e3⟩:=zNn h hc (L:=(· ∈M)) (fun a ha=>hM a ha) (b:=J1 x.zA.length []) (by simp) (zFU h hc hM) hl;obtain⟨C,c1,c2⟩:=zEc h hc e2 e3;refine⟨C,?_,c2⟩;unfold zX5 zX3;rw[yI,bs,bs,e1,bs,c1,bs]
end
theorem zYJ(k l:Nat):wB C k (l+1)=wB C k l++(match C (k+l)with
  |none=>[]
  |some t=>[t]):=by
 unfold wB;rw[Ql,List.filterMap_append]
 congr 1
 cases h:C (k+l)<;>simp[h]
section
variable {x:SPr} (h:Pres x) (hc:xC (suf x 0))
 include h hc
theorem zJS{b:Mx}{t:Vec}(hd:d<x.zA.length)(ht:V (suf x 0) t)(zt:∀j,j<d->at0 t j=0)(h1:at0 t d=1)(hy:V (suf x 0) y)(hn:at0 y d≠0)(hb:b.getD d []=t):
  ∃z,zI8 x t (0-at0 y d)=jf z/\V (suf x 0) z/\(∀{Y:Vec->Prop},(∀a,Y a->V (suf x 0) a)->vS x Y t->vS x Y z)/\(∀j,j<d->at0 z j=0)/\at0 (mul (suf x 0) y z) d=0:=by
 have F:=zBX h hc;have hr:=F.r hy hd;have eh:=(h.os.2 d hd).pos;have _:=hb;obtain⟨u,u1,u2,u3⟩:=yEI h hc ht (e:=at0 y d) (by have:=hr.1;omega) (by have:=hr.2;omega);obtain⟨k1,k2,k3⟩:=F.killr hd ht u1 u2 zt h1 hy;exact⟨_,by rw[show(0:Int)-at0 y d= -at0 y d from by omega];exact u3,k1,fun _ g=>(Gen.i g u1 u2).pw _,k2,k3⟩
theorem zPn{b:Mx}(hb:b.length=x.zA.length)(hT:Tab (V (suf x 0)) x.zA.length (fun v d=>at0 v d) (tbl b))(hy:V (suf x 0) y):∃(z:Vec)(d:Nat),zZy x b y=jf ((d:Int),z)/\
  Sf (V (suf x 0)) (mul (suf x 0)) (zeros (suf x 0).length) x.zA.length (fun v d=>at0 v d) (tbl b) y z/\d<=x.zA.length/\(∀j,j<d->at0 z j=0)/\(d<x.zA.length->at0 z d≠0/\tbl b d=jg):=by
 have h6:=h.os.1;have F:=zBX h hc;obtain⟨r,r1,r2⟩:=wY (body:=zNT x b) (Q:=fun r=>match r with
   |.inl z=>Sf (V (suf x 0)) (mul (suf x 0)) (zeros (suf x 0).length) x.zA.length (fun v d=>at0 v d) (tbl b) y z/\ ∀j,j<x.zA.length->at0 z j=0
   |.inr p=> ∃(z:Vec)(d:Nat),p=((d:Int),z)/\Sf (V (suf x 0)) (mul (suf x 0)) (zeros (suf x 0).length) x.zA.length (fun v d=>at0 v d) (tbl b) y z/\d<x.zA.length/\(∀j,j<d->at0 z j=0)/\at0 z d≠0/\tbl b d=jg)
  (fun d s=> ∃z:Vec,s=(z,(d:Int))/\Sf (V (suf x 0)) (mul (suf x 0)) (zeros (suf x 0).length) x.zA.length (fun v d=>at0 v d) (tbl b) y z/\ ∀j,j<d->at0 z j=0) x.zA.length (fun d s hd hs=>by
   obtain⟨z,rfl,sf,z0⟩:=hs;have hz:=sf.s;have ck:=zBy h hc hz;unfold zNT;simp only
   rw[show decide ((d:Int)<(b.length:Int))=jh from jk,zH,yA 0,bs]
   by_cases h0:at0 z d=0
   ·left
    rw[show z.getD d 0=0 from h0,show((0:Int)==0)=jh from rfl,zH,zB,bs,cs];refine⟨_,rfl,z,rfl,sf,fun j hj=>?_⟩
    by_cases e:j=d
    ·rw[e];exact h0
    ·exact z0 j (by omega)
   ·rw[show(z.getD d 0==0)=ji from by simpa using h0,zK,yA [],bs]
    cases ht:b.getD d []with
    |nil=>
     right;rw[show(((([]:List Int)).length:Int)==0)=jh from rfl,zH];exact⟨_,rfl,z,d,rfl,sf,hd,z0,h0,tJ.2 ht⟩
    |cons t0 ts=>
     left;have eQ:tbl b d=jf (t0::ts):=qX.2 ⟨ht,by simp⟩;obtain⟨_,t2,t3,t4⟩:=hT.h eQ;obtain⟨w,w1,w2,w3,w4,w5⟩:=zJS h hc hd t2 t3 t4 hz h0 ht;obtain⟨s1,s2⟩:=Sf.right F hT hd hz z0 h0 eQ w3 w2 w4 w5;have hr:=F.r hz hd;have eh:=(h.os.2 d hd).pos;rw[show((((t0::ts):List Int).length:Int)==0)=ji from by simp;omega,zK,bs,bs];rw[show z.getD d 0=at0 z d from rfl,zB (by have:=hr.2;omega) (by have:=hr.1;omega),bs,w1,bs,zIs h hc hz w2,bs,zB,bs,cs];exact⟨_,rfl,_,rfl,sf.trans s1,s2⟩) (fun s hs=>by
   obtain⟨z,rfl,sf,z0⟩:=hs;unfold zNT;simp only
   rw[show decide ((x.zA.length:Int)<(b.length:Int))=ji from jj (by omega),zK];exact⟨_,rfl,sf,z0⟩) (s:=(y,0)) ⟨y,rfl,Sf.refl hy,fun j hj=>by omega⟩
 unfold zZy;rw[tH (by rw[zBy h hc hy];omega),bs,r1,bs];cases r with
 |inl z=>exact⟨z,x.zA.length,by simp only[hb],r2.1,Je _,r2.2,fun hh=>absurd hh (Jam _)⟩
 |inr p=>
  obtain⟨z,d,rfl,p1,p2,p3,p4,p5⟩:=r2;exact⟨z,d,rfl,p1,by omega,p3,fun _=>⟨p4,p5⟩⟩
theorem zPo{b:Mx}(hb:b.length=x.zA.length)(hT:Tab (V (suf x 0)) x.zA.length (fun v d=>at0 v d) (tbl b))(hy:V (suf x 0) y)(hd:d<x.zA.length)(hn:tbl b d=jg){s:Mx×Mx}(hs:s.1=b){g:Int×List Int}(hg:g.1=(d:Int))(hQ:Q.length<=100000):
  ∃W:Mx,zE (zTl x s g y) (Q,0)=jf (Q++W)/\W.length<=x.zA.length/\(∀w∈W,V (suf x 0) w/\ ∃k u,tbl b k=jf u/\mul (suf x 0) (mul (suf x 0) u y) w=mul (suf x 0) y u)/\
   ∀k u,tbl b k=jf u-> ∃w,w∈W/\mul (suf x 0) (mul (suf x 0) u y) w=mul (suf x 0) y u:=by
 have h6:=h.os.1;obtain⟨r,r1,W,rfl,r2,r3,r4⟩:=wY (body:=zTl x s g y)
  (Q:=fun r=> ∃W:Mx,r=Q++W/\W.length<=x.zA.length/\(∀w∈W,V (suf x 0) w/\ ∃k u,tbl b k=jf u/\mul (suf x 0) (mul (suf x 0) u y) w=mul (suf x 0) y u)/\
   ∀k u,tbl b k=jf u-> ∃w,w∈W/\mul (suf x 0) (mul (suf x 0) u y) w=mul (suf x 0) y u)
  (fun i s=> ∃W:Mx,s=(Q++W,(i:Int))/\W.length<=i/\(∀w∈W,V (suf x 0) w/\ ∃k u,tbl b k=jf u/\mul (suf x 0) (mul (suf x 0) u y) w=mul (suf x 0) y u)/\
   ∀k u,k<i->tbl b k=jf u-> ∃w,w∈W/\mul (suf x 0) (mul (suf x 0) u y) w=mul (suf x 0) y u) x.zA.length (fun i s' hi gF=>by
   obtain⟨W,rfl,w1,w2,w3⟩:=gF;left;unfold zTl;simp only[hs,hg];rw[yP hi,zH]
   by_cases e:i=d
   ·subst e
    rw[show(((i:Nat):Int) != (i:Int))=ji from by simp,zK,zB,bs,cs];refine⟨_,rfl,W,rfl,by omega,w2,fun k u hk hu=>?_⟩
    by_cases e:k=i
    ·subst e;rw[hn]at hu;cases hu
    ·exact w3 k u (by omega) hu
   ·rw[show(((i:Nat):Int) != (d:Int))=jh from by simp;omega,zH,show((d:Nat):Int).toNat=d from rfl,yA [] (by rw[Hf];omega),bs]
    rw[show(b.set d y).getD i []=b.getD i []from by rw[J2,Jb0 (fun g=>e g.symm),<-J2]];cases ht:b.getD i []with
    |nil=>
     rw[show decide (((([]:List Int)).length:Int)> 0)=ji from rfl,zK,zB,bs,cs];refine⟨_,rfl,W,rfl,by omega,w2,fun k u hk hu=>?_⟩
     by_cases e:k=i
     ·subst e
      rw[tJ.2 ht]at hu;cases hu
     ·exact w3 k u (by omega) hu
    |cons t0 ts=>
     have eQ:tbl b i=jf (t0::ts):=qX.2 ⟨ht,by simp⟩;obtain⟨_,t2,_,_⟩:=hT.h eQ;obtain⟨w,v1,v2,v3⟩:=zVI h hc hy t2;rw[show decide ((((t0::ts):List Int).length:Int)> 0)=jh from jk (by simp only[J7];omega),zH,v3,bs,zV (by simp only[J5,Jb];omega),bs,zB,bs,cs];refine⟨_,rfl,W++[w],by rw[Jg],by simp only[J5,Jb];omega,fun a ha=>?_,fun k u hk hu=>?_⟩
     ·rcases Ja.1 ha with ha|ha
      ·exact w2 a ha
      ·simp at ha;subst ha
       exact⟨v1,i,_,eQ,v2⟩
     ·by_cases e:k=i
      ·subst e
       rw[eQ]at hu;cases hu;exact⟨w,by simp,v2⟩
      ·obtain⟨a,a1,a2⟩:=w3 k u (by omega) hu
       exact⟨a,by simp[a1],a2⟩) (fun s' gF=>by
   obtain⟨W,rfl,w1,w2,w3⟩:=gF;unfold zTl;simp only
   rw[tS,zK];exact⟨_,rfl,W,rfl,w1,w2,fun k u hu=>w3 k u (hT.h hu).1 hu⟩) (s:=(Q,0)) ⟨[],by simp,Je _,by simp,fun k u hk=>by omega⟩
 exact⟨W,r1,r2,r3,r4⟩
theorem zPp{L:Vec->Prop}(hL:∀a,L a->V (suf x 0) a){b:Mx}(hb:b.length=x.zA.length){q:Vec}(hW:WlB x L b (Q++[q]))(hQ:Q.length<=10000):
  ∃(b':Mx)(Q':Mx),zTm x (b,Q++[q])=jf (.inl (b',Q'))/\b'.length=x.zA.length/\WlB x L b' Q'/\
   (b'=b/\Q'=Q\/qC b'+1=qC b/\Q'.length<=Q.length+x.zA.length+2):=by
 have h6:=h.os.1;have F:=zBX h hc;have G:=g0 h hc;have hq:=hW.q q (by simp);obtain⟨z,d,s1,sf,s3,s4,s5⟩:=zPn h hc hb hW.t hq.1;have hz:=sf.s;have ck:=zBy h hc hz;unfold zTm;simp only
 have gf:((Q++[q]).length:Int)=(Q.length:Int)+1:=by simp
 rw[show decide (((Q++[q]).length:Int)> 0)=jh from jk,zH,gf,show(Q.length:Int)+1-1=(Q.length:Int)from by omega,zB,bs];rw[show ixO (Q++[q]) (Q.length:Int)=jf q from by rw[vH,Jk (Je _),Ko];rfl,bs];rw[show zS (Q++[q]) 0 (Q.length:Int)=jf Q from by unfold zS;rw[if_pos ⟨by omega,by omega,by omega⟩];simp,bs,s1,bs]
 dsimp only
 by_cases hd:d<x.zA.length
 ·obtain⟨n1,n2⟩:=s5 hd
  have eh:=h.os.2 d hd;have hp7:=eh.pos;have hr:=F.r hz hd;obtain⟨v,v1,v2,v3,v4⟩:=zMK eh (x:=at0 z d) (by have:=hr.1;omega) (by have:=hr.2;omega);have px:V (suf x 0) (pw (mul (suf x 0)) (zeros (suf x 0).length) z v.toNat):=wV G.toMon hz _;obtain⟨y,pt⟩:∃y,y=pw (mul (suf x 0)) (zeros (suf x 0).length) z v.toNat:=⟨_,rfl⟩;rw[<-pt]at px;have mT:=F.pwc hd hz s4 v.toNat;rw[<-pt]at mT;have eE:at0 y d=1:=by have:=mT.2;rw[this,show((v.toNat:Nat):Int)=v from by omega,Gy];exact v4
  have ab:V (suf x 0) (pw (mul (suf x 0)) (zeros (suf x 0).length) y (at0 x.zA d).toNat):=wV G.toMon px _;have cK:y≠[]:=zIu (d:=d) (by rw[eE];decide);rw[show(((d:Nat):Int)==(x.zA.length:Int))=ji from by simp;omega,zK,yA 0,bs,yA 0 hd,bs];rw[show z.getD d 0=at0 z d from rfl,show x.zA.getD d 0=at0 x.zA d from rfl,v1,bs,zVH h hc hz v2 (by omega),bs,<-pt,yA [],bs,zV (by simp only[Jb];omega),bs];rw[zVH h hc px (by omega) (by omega),bs,zV (by simp only[J5,Jb];omega),bs];obtain⟨W,W1,W2,W3,W4⟩:=zPo h hc hb hW.t px hd n2 (s:=(b,Q++[q])) rfl (g:=((d:Int),z)) rfl (Q:=Q++[z]++[pw (mul (suf x 0)) (zeros (suf x 0).length) y (at0 x.zA d).toNat]) (by simp only[J5,Jb];omega);rw[W1,bs];refine⟨_,_,rfl,by rw[Hf];exact hb,?_,.inr ⟨zIt b d y (by omega) (tJ.1 n2) cK,by simp only[J5,Jb];omega⟩⟩;rw[show((d:Nat):Int).toNat=d from rfl];have gv:=zLl (b:=b) (d:=d) (y:=y) (by omega) cK;have a9:vS x L z:=sf.h L hL hW.th hq.2;have py:vS x L y:=by rw[pt];exact a9.pw _
  rw[WlB,gv];refine Wl.add F hW hd n2 px py mT.1 eE (x:=q) (fun k hk=>?_) (fun a ha=>?_) (fun a ha=>?_) (by simp) (fun k u hu=>?_)
  ·have j7:∀k t,tbl b k=jf t->(fun j=>if j=d then jf y else tbl b j) k=jf t:=fun k t hk=>by
    show(if k=d then jf y else tbl b k)=jf t;rw[if_neg]
    ·exact hk
    ·intro e;rw[e,n2]at hk;cases hk
   have ja:∀a∈Q++[z]++[pw (mul (suf x 0)) (zeros (suf x 0).length) y (at0 x.zA d).toNat]++W,V (suf x 0) a:=fun a ha=>by
    simp only[Ja,List.mem_singleton]at ha;rcases ha with((ha|rfl)|rfl)|ha
    ·exact(hW.q a (by simp[ha])).1
    ·exact hz
    ·exact ab
    ·exact(W3 a ha).1
   have:=sf.g k (Q++[z]++[pw (mul (suf x 0)) (zeros (suf x 0).length) y (at0 x.zA d).toNat]++W) ja hk (.x (.inr ⟨by simp,fun j hj fL=>sf.d k hk j hj fL⟩));exact this.tr j7 fun a ha k hk=>.x (.inr ⟨ha,hk⟩)
  ·simp only[Ja,List.mem_singleton]at ha
   rcases ha with((ha|rfl)|rfl)|ha
   ·exact hW.q a (by simp[ha])
   ·exact⟨hz,a9⟩
   ·exact⟨ab,py.pw _⟩
   ·obtain⟨a1,k,u,a2,a3⟩:=W3 a ha
    refine⟨a1,Gen.right G hL (.m (hW.th a2) py) a1 ?_⟩;rw[a3];exact .m py (hW.th a2)
  ·simp only[Ja,List.mem_singleton]at ha
   rcases ha with ha|rfl
   ·exact .inr (by simp[ha])
   ·exact .inl rfl
  ·obtain⟨w,w1,w2⟩:=W4 k u hu
   exact⟨w,by simp[w1],.inl w2⟩
 ·rw[show(((d:Nat):Int)==(x.zA.length:Int))=jh from by simp;omega,zH]
  refine⟨b,Q,rfl,hb,?_,.inl ⟨rfl,rfl⟩⟩;have dL:z=zeros (suf x 0).length:=F.ex hz G.ein fun j hj=>by have e0:=F.e0 hj;rw[e0,s4 j (by omega)]
  refine Wl.drop hW (x:=q) (fun k hk=>?_) (fun a ha=>by simp[ha]) (fun a ha=>by simp at ha;rcases ha with ha|ha;exact .inr ha;exact .inl ha);exact sf.g k Q (fun a ha=>(hW.q a (by simp[ha])).1) hk (by rw[dL];exact .one)
end
section
variable {x:SPr} (h:Pres x) (hc:xC (suf x 0))
 include h hc
theorem zPq{L:Vec->Prop}{b D:Mx}(hb:b.length=x.zA.length)(hD:D.length=x.zA.length)(hI:CI x L b (d+1) (tbl D))(hd:d<x.zA.length){s:Mx×Int}(hs:s.1=D){t:Vec}(hT:V (suf x 0) t)(hg:vS x L t)(hz:∀i,i<d->at0 t i=0)(h1:at0 t d=1)(hL:∀a,L a->V (suf x 0) a):
  ∃r,zE (zX2 x b s) (t,((d+1:Nat):Int))=jf r/\Rd (V (suf x 0)) (mul (suf x 0)) (zeros (suf x 0).length) x.zA.length (fun v j=>at0 v j) L (tbl D) d x.zA.length r:=by
 have h6:=h.os.1;have F:=zBX h hc;have _:=hL;obtain⟨r,r1,r2⟩:=vZ (body:=zX2 x b s) (Q:=fun r=>Rd (V (suf x 0)) (mul (suf x 0)) (zeros (suf x 0).length) x.zA.length (fun v j=>at0 v j) L (tbl D) d x.zA.length r)
  (fun st=> ∃(k:Nat)(y:Vec),st=(y,(k:Int))/\d<k/\k<=x.zA.length/\Rd (V (suf x 0)) (mul (suf x 0)) (zeros (suf x 0).length) x.zA.length (fun v j=>at0 v j) L (tbl D) d k y) (fun st=>x.zA.length-st.2.toNat) (fun st gA=>by
   obtain⟨k,y,rfl,k1,k2,hR⟩:=gA;have hy:=hR.s;unfold zX2;simp only[hs]
   by_cases hk:k<x.zA.length
   ·left
    rw[show decide ((k:Int)<(b.length:Int))=jh from jk,zH,yA [],bs];cases ht:D.getD k []with
    |nil=>
     rw[show decide (((([]:List Int)).length:Int)> 0)=ji from rfl,zK,zB,bs,cs];exact⟨_,rfl,⟨k+1,y,rfl,by omega,by omega,hR.skip (.inl (tJ.2 ht))⟩,by simp only[J8];omega⟩
    |cons t0 ts=>
     have eQ:tbl D k=jf (t0::ts):=qX.2 ⟨ht,by simp⟩;obtain⟨_,t2,t3,t4⟩:=hI.c eQ;rw[show decide ((((t0::ts):List Int).length:Int)> 0)=jh from jk (by simp only[J7];omega),zH,yA 0 (by rw[zBy h hc hy];exact hk),bs]
     by_cases h0:at0 y k=0
     ·rw[show(y.getD k 0 != 0)=ji from by simpa using h0,zK,zB,bs,cs]
      exact⟨_,rfl,⟨k+1,y,rfl,by omega,by omega,hR.skip (.inr h0)⟩,by simp only[J8];omega⟩
     ·obtain⟨w,w1,w2,w3,w4,w5⟩:=zJS h hc hk t2 t3 t4 hy h0 ht
      have hr:=F.r hy hk;have eh:=(h.os.2 k hk).pos;have hw:vS x L w:=w3 hL (hI.g eQ);rw[show(y.getD k 0 != 0)=jh from by simpa using h0,zH,bs,bs,show y.getD k 0=at0 y k from rfl,zB (by have:=hr.2;omega) (by have:=hr.1;omega),bs,w1,bs,zIs h hc hy w2,bs,zB,bs,cs];exact⟨_,rfl,⟨k+1,_,rfl,by omega,by omega,hR.step F k1 hk w2 hw w4 w5⟩,by simp only[J8];omega⟩
   ·right
    have e:k=x.zA.length:=by omega
    subst e;rw[show decide ((x.zA.length:Int)<(b.length:Int))=ji from jj (by omega),zK];exact⟨_,rfl,hR⟩) 1000 (t,((d+1:Nat):Int)) (by simp only;omega) ⟨d+1,t,rfl,by omega,by omega,hT,hg,hz,h1,fun i hi eR=>by omega⟩
 exact⟨r,r1,r2⟩
theorem zVM{D:Mx}(hD:D.length=x.zA.length):zE (zTk D) ([],0)=jf (wB (tbl D) 0 x.zA.length):=by
 have h6:=h.os.1;have _:=hc;have:=zO (body:=zTk D) (r:=wB (tbl D) 0 x.zA.length) (fun i=>(wB (tbl D) 0 i,(i:Int))) x.zA.length (fun i hi=>by
  have hl:=zCG (tbl D) 0 i;unfold zTk;simp only
  rw[show decide ((i:Int)<(D.length:Int))=jh from jk,zH,yA [],bs,zYJ,Ji];cases ht:D.getD i []with
  |nil=>
   rw[show decide (((([]:List Int)).length:Int)> 0)=ji from rfl,zK,zB,bs,cs,tJ.2 ht];simp
  |cons t0 ts=>
   rw[show decide ((((t0::ts):List Int).length:Int)> 0)=jh from jk (by simp only[J7];omega),zH,bs,zV (by simp only[Jb];omega),bs,zB,bs,cs,(qX (t:=t0::ts)).2 ⟨ht,by simp⟩]) (by
  unfold zTk;simp only
  rw[show decide ((x.zA.length:Int)<(D.length:Int))=ji from jj (by omega),zK])
 exact this
theorem zS3{L:Vec->Prop}(hL:∀a,L a->V (suf x 0) a){b:Mx}(hb:b.length=x.zA.length)(hW:WlB x L b []):∃C,f_F x b=jf (wB C 0 x.zA.length)/\zAz x L C:=by
 have h6:=h.os.1;have e0:tbl (J1 x.zA.length [])=fun _=>jg:=by
  funext k
  rw[tJ,J2,K4];split<;>rfl
 obtain⟨D,r1,r2,r3⟩:=vZ (body:=zZz x b) (Q:=fun D=>D.length=x.zA.length/\CI x L b 0 (tbl D))
  (fun s=> ∃(d:Nat)(D:Mx),s=(D,(d:Int)-1)/\d<=x.zA.length/\D.length=x.zA.length/\CI x L b d (tbl D)) (fun s=>(s.2+1).toNat) (fun s hs=>by
   obtain⟨d,D,rfl,hd,hD,hI⟩:=hs;unfold zZz;simp only
   cases d with
   |zero=>
    right;rw[show decide (((0:Nat):Int)-1>=0)=ji from rfl,zK];exact⟨_,rfl,hD,hI⟩
   |succ d=>
    left;rw[show(((d+1:Nat):Int)-1)=(d:Int)from by omega,show decide ((d:Int)>=0)=jh from jk,zH,yA [],bs];cases ht:b.getD d []with
    |nil=>
     obtain⟨i1,_⟩:=hI.skip (by omega) (tJ.2 ht);rw[show(((([]:List Int)).length:Int)==0)=jh from rfl,zH,zB,bs];exact⟨_,rfl,⟨d,D,rfl,by omega,hD,i1⟩,by simp only;omega⟩
    |cons t0 ts=>
     have eQ:tbl b d=jf (t0::ts):=qX.2 ⟨ht,by simp⟩;obtain⟨t1,t2,t3,t4⟩:=hW.t.h eQ;obtain⟨r,e1,e2⟩:=zPq h hc hb hD hI (by omega) (s:=(D,(d:Int))) rfl t2 (hW.th eQ) t3 t4 hL;obtain⟨i1,_⟩:=hI.put (by omega) eQ e2;have u9:r≠[]:=zIu (d:=d) (by have:=e2.o;rw[this];decide);rw[show((((t0::ts):List Int).length:Int)==0)=ji from by simp;omega,zK,bs,zB,bs,cs,e1,bs,yA [],bs,zB,bs,show((d:Nat):Int).toNat=d from rfl];refine⟨_,rfl,⟨d,_,rfl,by omega,by rw[Hf];exact hD,?_⟩,by simp only;omega⟩;rw[zLl (by omega) u9];exact i1) 1000 (J1 x.zA.length [],(x.zA.length:Int)-1) (by simp only;omega) ⟨x.zA.length,_,rfl,Je _,by simp,by rw[e0];exact CI.start hb⟩
 refine⟨tbl D,?_,r3.can h hc hW⟩;unfold f_F;rw[hb,yI,bs,zB,bs,r1,bs,zVM h hc r2,bs]
theorem zEd(hM:∀a∈M,V (suf x 0) a)(hl:M.length<=1000):∃C,f_H x M=jf (wB C 0 x.zA.length)/\zAz x (· ∈M) C:=by
 have h6:=h.os.1;obtain⟨b,r1,r2,r3⟩:=vZ (body:=zTm x) (Q:=fun b=>b.length=x.zA.length/\WlB x (· ∈M) b [])
  (fun s=> ∃(b Q:Mx),s=(b,Q)/\b.length=x.zA.length/\WlB x (· ∈M) b Q/\qC b*20+Q.length<=2000) (fun s=>qC s.1*20+s.2.length) (fun s hs=>by
   obtain⟨b,Q,rfl,hb,hW,hm⟩:=hs;rcases List.eq_nil_or_concat Q with rfl|⟨Q,q,rfl⟩
   ·right
    unfold zTm;simp only
    rw[show decide ((([]:Mx).length:Int)> 0)=ji from rfl,zK];exact⟨_,rfl,hb,hW⟩
   ·left
    rw[List.concat_eq_append]at hW hm ⊢
    simp only[J5,Jb]at hm;obtain⟨b',Q',e1,e2,e3,e4⟩:=zPp h hc (L:=(· ∈M)) (fun a ha=>hM a ha) hb hW (by omega);refine⟨_,e1,⟨b',Q',rfl,e2,e3,?_⟩,?_⟩
    ·rcases e4 with⟨rfl,rfl⟩|⟨e4,e5⟩<;>omega
    ·simp only[J5,Jb]
     rcases e4 with⟨rfl,rfl⟩|⟨e4,e5⟩<;>omega) 100000 (J1 x.zA.length [],M) (by have:=zBK (J1 x.zA.length []);simp only[Jl]at this ⊢;omega) ⟨_,M,rfl,by simp,zFU h hc hM,by have:=zBK (J1 x.zA.length []);simp only[Jl]at this;omega⟩
 obtain⟨C,c1,c2⟩:=zS3 h hc (L:=(· ∈M)) (fun a ha=>hM a ha) r2 r3;refine⟨C,?_,c2⟩;unfold f_H;rw[yI,bs,zDb (by omega) (fun i hi=>by have:=hM (M.getD i []) (by rw[J2,J3 hi];exact Jp hi);rw[zBy h hc this];omega),bs,r1,bs,c1,bs]
theorem zIx(hM:∀a∈M,V (suf x 0) a)(hl:M.length<=1000):∃C,f_H x M=jf (wB C 0 x.zA.length)/\zX5 x M=jf (wB C 0 x.zA.length)/\zAz x (· ∈M) C:=by obtain⟨C,c1,c2⟩:=zEd h hc hM hl;obtain⟨D,d1,d2⟩:=zIw h hc hM hl;have e:=Pc.Can.uniq (zBX h hc) (fun ha hb=>Gen.m ha hb) (fun ha hb fC=>Gen.i ha hb fC) c2 d2;exact⟨C,c1,by rw[d1,zFe _ _ fun j _=>(e j).symm],c2⟩
end
section
variable {x:SPr} (h:Pres x) (hc:xC (suf x 0))
 include h hc
theorem zVN{L:Vec->Prop}(hL:∀a,L a->V (suf x 0) a){b:Mx}(hb:b.length=x.zA.length)(hW:WlB x L b [])(hM:∀a∈M,V (suf x 0) a)(hl:M.length<=1000):
  ∃(g:Bool)(b':Mx),f_E ⟨x,b⟩ M=jf (g,⟨x,b'⟩)/\b'.length=x.zA.length/\WlB x (fun a=>L a\/a∈M) b' []/\(b'=b/\g=ji/\(∀a∈M,vS x L a)\/qC b'<qC b/\g=jh):=by
 have hW2:=Wl.more hW (M:=M) hM;obtain⟨g,b',e1,e2,e3,e4⟩:=zJP h hc (fun a ha=>by
  rcases ha with ha|ha
  ·exact hL a ha
  ·exact hM a ha) hb hW2 hl
 refine⟨g,b',e1,e2,e3,?_⟩;rcases e4 with⟨rfl,e4⟩|e4
 ·refine .inl ⟨rfl,e4,fun a ha=>(e3.g a (.inr ha)).to fun c hc=>?_⟩
  rcases hc with⟨j,h1,h2⟩|⟨h1,_⟩
  ·exact hW.th h2
  ·simp at h1
 ·exact .inr e4
theorem zIy{L M:Vec->Prop}{D:Nat->Option Vec}(hC:zAz x L C)(hD:zAz x M D)(hs:∀a,vS x L a↔vS x M a):wB C 0 x.zA.length=wB D 0 x.zA.length:=by
 have e:vS x L=vS x M:=funext fun a=>propext (hs a)
 have hC':zAz x M C:=by unfold zAz at hC ⊢;rw[<-e];exact hC
 have u:=Pc.Can.uniq (zBX h hc) (fun ha hb=>Gen.m ha hb) (fun ha hb fC=>Gen.i ha hb fC) hC' hD;exact zFe _ _ fun j _=>u j
theorem zRw{L M:Vec->Prop}(hM:∀a,M a->V (suf x 0) a){D:Nat->Option Vec}(hC:zAz x L C)(hD:zAz x M D)(hs:∀a,vS x L a->vS x M a)(hl:(wB C 0 x.zA.length).length=(wB D 0 x.zA.length).length)(a:Vec):vS x L a↔vS x M a:=by
 have F:=zBX h hc;refine⟨hs a,fun ha=>?_⟩;have ey:∀k∈K7 0 x.zA.length,(C k).isSome=jh->(D k).isSome=jh:=fun k _ hk=>Pc.Can.sub F hC hD hs hk
 have e:=(Pc.some_len _ ey).2 hl;exact Pc.Can.back F hM hC hD hs (fun k hk h1=>e k (by simp[Jb6];omega) h1) ha
theorem zFf{L:Vec->Prop}(hL:∀a,L a->V (suf x 0) a)(hC:zAz x L C)(a:Vec):vS x L a↔vS x (· ∈wB C 0 x.zA.length) a:=by
 have F:=zBX h hc;constructor
 ·intro ha
  refine(Pc.Can.gen F hL hC ha).mono fun c hc=>?_
  obtain⟨⟨k,hk⟩,_⟩:=hc;have eY:=(hC.i hk).1;exact Jai.2 ⟨k,by simp[Jb6];omega,hk⟩
 ·intro ha
  refine ha.to fun c hc=>?_
  obtain⟨k,_,hk⟩:=Jai.1 hc;exact(hC.i hk).2.1
end
section
variable {x:SPr} (h:Pres x) (hc:xC (suf x 0))
 include h hc
theorem yEJ{a b:Vec}(ha:V (suf x 0) a)(hb:V (suf x 0) b):∃c,V (suf x 0) c/\mul (suf x 0) b c=mul (suf x 0) a b/\zIR x a b=jf c/\zX7 x a b=jf c:=by
 have ok:=ok0 h hc;have G:=g0 h hc;obtain⟨c,c1,c2,c3⟩:=qU h (k:=0) (by omega) hc ha hb;simp only[fv0]at c3;obtain⟨w,w1,w2,w3⟩:=zHS h hc hb;have fC:=yO ok ha hb;refine⟨c,c1,c2,c3,?_⟩;have e:mul (suf x 0) w (mul (suf x 0) a b)=c:=G.cancel_l hb (yO ok w1 fC) c1 (by rw[<-G.assoc hb w1 fC,w2,G.onel fC,c2]);unfold zX7;rw[w3,bs,zIs h hc ha hb,bs,zIs h hc w1 fC,bs,e]
 omit h hc in
noncomputable def cjf (x:SPr) (a b:Vec):Vec:=(zIR x a b).getD []
theorem kM{a b:Vec}(ha:V (suf x 0) a)(hb:V (suf x 0) b):V (suf x 0) (cjf x a b)/\mul (suf x 0) b (cjf x a b)=mul (suf x 0) a b/\zIR x a b=jf (cjf x a b)/\zX7 x a b=jf (cjf x a b):=by
 obtain⟨c,c1,c2,c3,c4⟩:=yEJ h hc ha hb;have:cjf x a b=c:=by rw[cjf,c3];rfl
 rw[this];exact⟨c1,c2,c3,c4⟩
theorem zG2(hu:∀a∈u,V (suf x 0) a){b:Vec}(hb:V (suf x 0) b)(hl:u.length<=1000):zZ5 x u b=jf (u.map fun a=>cjf x a b):=by
 have l:=zO (body:=zNZ x u b) (r:=u.map fun a=>cjf x a b) (fun i=>((u.take i).map fun a=>cjf x a b,(i:Int))) u.length (fun i hi=>by
  have hm:V (suf x 0) (u.getD i []):=hu _ (by rw[J2,J3 hi];exact Jp hi);unfold zNZ;simp only
  rw[show decide ((i:Int)<(u.length:Int))=jh from jk,zH,yA [] hi,bs,(kM h hc hm hb).2.2.1,bs,zV (by simp only[Jf,Ke,Jb];omega),bs,zB,bs];rw[Lt,K6,J3 hi,J2,J3 hi];rfl) (by
  unfold zNZ;simp only
  rw[show decide ((u.length:Int)<(u.length:Int))=ji from jj (by omega),zK,Ln])
 unfold zZ5;rw[show((0:Nat):Int)=0 from rfl,Kd,Le]at l;rw[l,bs]
theorem zPr{B:Mx}(hB:∀a∈B,V (suf x 0) a)(pq:B.length<=1000){L0:Vec->Prop}(h0:∀a,L0 a->V (suf x 0) a)(n0:∀a,L0 a->NCl (V (suf x 0)) (mul (suf x 0)) (zeros (suf x 0).length) (· ∈M) (· ∈B) a)
  {b0:Mx}(dc:b0.length=x.zA.length)(hW0:WlB x L0 b0 [])(hu:∀a∈u,V (suf x 0) a/\vS x L0 a)(gU:u.length<=1000):
  ∃(b:Mx)(g:Bool)(L:Vec->Prop),zE (zKb x B u) (x,b0,ji,0)=jf (x,b,g)/\b.length=x.zA.length/\WlB x L b []/\(∀a,L a->V (suf x 0) a)/\(∀a,L0 a->L a)/\
   (∀a,L a->NCl (V (suf x 0)) (mul (suf x 0)) (zeros (suf x 0).length) (· ∈M) (· ∈B) a)/\(g=ji/\b=b0/\(∀a,L a->vS x L0 a)/\(∀c∈B,∀a∈u,vS x L0 (cjf x a c))\/g=jh/\qC b<qC b0):=by
 have G:=g0 h hc;obtain⟨r,r1,b,g,L,rfl,r2⟩:=wY (body:=zKb x B u)
  (Q:=fun r=> ∃(b:Mx)(g:Bool)(L:Vec->Prop),r=(x,b,g)/\b.length=x.zA.length/\WlB x L b []/\(∀a,L a->V (suf x 0) a)/\(∀a,L0 a->L a)/\
   (∀a,L a->NCl (V (suf x 0)) (mul (suf x 0)) (zeros (suf x 0).length) (· ∈M) (· ∈B) a)/\(g=ji/\b=b0/\(∀a,L a->vS x L0 a)/\(∀c∈B,∀a∈u,vS x L0 (cjf x a c))\/g=jh/\qC b<qC b0))
  (fun i s=> ∃(b:Mx)(g:Bool)(L:Vec->Prop),s=(x,b,g,(i:Int))/\b.length=x.zA.length/\WlB x L b []/\(∀a,L a->V (suf x 0) a)/\(∀a,L0 a->L a)/\
   (∀a,L a->NCl (V (suf x 0)) (mul (suf x 0)) (zeros (suf x 0).length) (· ∈M) (· ∈B) a)/\(g=ji/\b=b0/\(∀a,L a->vS x L0 a)/\(∀j,j<i-> ∀a∈u,vS x L0 (cjf x a (B.getD j [])))\/g=jh/\qC b<qC b0)) B.length (fun i s hi hs=>by
   obtain⟨b,g,L,rfl,hb,hW,hV,hs,hn,hg⟩:=hs;left;have hm:B.getD i []∈B:=by rw[J2,J3 hi];exact Jp hi
   have iZ:=hB _ hm;have eL:∀a∈u.map (fun a=>cjf x a (B.getD i [])),V (suf x 0) a:=fun a ha=>by obtain⟨a0,q1,rfl⟩:=Jc.1 ha;exact(kM h hc (hu a0 q1).1 iZ).1
   obtain⟨g',b',e1,e2,e3,e4⟩:=zVN h hc hV hb hW eL (by rw[Jf];exact gU);have hV':∀a,(L a\/a∈u.map (fun a=>cjf x a (B.getD i [])))->V (suf x 0) a:=fun a ha=>ha.elim (hV a) (eL a)
   have m8:∀a,vS x L0 a->NCl (V (suf x 0)) (mul (suf x 0)) (zeros (suf x 0).length) (· ∈M) (· ∈B) a:=fun a ha=>by
    induction ha with
    |one=>exact .one
    |x hx=>exact n0 _ hx
    |m _ _ i1 i2=>exact .m i1 i2
    |i _ hb hh i1=>exact .i i1 hb hh
   have hn':∀a,(L a\/a∈u.map (fun a=>cjf x a (B.getD i [])))->NCl (V (suf x 0)) (mul (suf x 0)) (zeros (suf x 0).length) (· ∈M) (· ∈B) a:=fun a ha=>ha.elim (hn a) fun ha=>by obtain⟨a0,q1,rfl⟩:=Jc.1 ha;obtain⟨k1,k2,_,_⟩:=kM h hc (hu a0 q1).1 iZ;exact .c (m8 a0 (hu a0 q1).2) hm k1 k2
   unfold zKb;simp only
   rw[show decide ((i:Int)<(B.length:Int))=jh from jk,zH,yA [] hi,bs,zG2 h hc (fun a ha=>(hu a ha).1) iZ gU,bs,e1,bs];rcases e4 with⟨rfl,rfl,q⟩|⟨q,rfl⟩
   ·simp only
    rw[zK,zB,bs];refine⟨_,rfl,b',g,_,rfl,e2,e3,hV',fun a ha=>.inl (hs a ha),hn',?_⟩;rcases hg with⟨rfl,rfl,k1,k2⟩|hg
    ·refine .inl ⟨rfl,rfl,fun a ha=>ha.elim (k1 a) fun ha=>(q a ha).to fun c hc=>k1 c hc,fun j hj a ha=>?_⟩
     by_cases hji:j=i
     ·subst hji
      exact(q _ (Jc.2 ⟨a,ha,rfl⟩)).to fun c hc=>k1 c hc
     ·exact k2 j (by omega) a ha
    ·exact .inr hg
   ·simp only
    rw[zH,zB,bs];refine⟨_,rfl,b',jh,_,rfl,e2,e3,hV',fun a ha=>.inl (hs a ha),hn',.inr ⟨rfl,?_⟩⟩;rcases hg with⟨_,rfl,_⟩|⟨_,hg⟩<;>omega) (fun s hs=>by
   obtain⟨b,g,L,rfl,hb,hW,hV,hs,hn,hg⟩:=hs;unfold zKb;simp only
   rw[show decide ((B.length:Int)<(B.length:Int))=ji from jj (by omega),zK];refine⟨_,rfl,b,g,L,rfl,hb,hW,hV,hs,hn,?_⟩;rcases hg with⟨k0,k1,k2,k3⟩|hg
   ·refine .inl ⟨k0,k1,k2,fun c hcB a ha=>?_⟩
    obtain⟨j,hj,rfl⟩:=List.getElem_of_mem hcB;have:=k3 j hj a ha
    rwa [J2,J3 hj]at this
   ·exact .inr hg) ⟨b0,ji,L0,rfl,dc,hW0,h0,fun _ h=>h,n0,.inl ⟨rfl,rfl,fun a ha=>.x ha,fun j hj=>by omega⟩⟩
 exact⟨b,g,L,r1,r2⟩
theorem zLn{B:Mx}(hM:∀a∈M,V (suf x 0) a)(jc:M.length<=1000)(hB:∀a∈B,V (suf x 0) a)(pq:B.length<=1000):
  ∃(L:Vec->Prop)(C:Nat->Option Vec),zZ6 x M B=jf (wB C 0 x.zA.length)/\zAz x L C/\(∀a,L a->V (suf x 0) a)/\ ∀a,vS x L a↔NCl (V (suf x 0)) (mul (suf x 0)) (zeros (suf x 0).length) (· ∈M) (· ∈B) a:=by
 have h6:=h.os.1;have G:=g0 h hc;obtain⟨g,b,e1,e2,e3⟩:=zNn h hc (L:=(· ∈M)) (fun a ha=>hM a ha) (b:=J1 x.zA.length []) (by simp) (zFU h hc hM) jc;obtain⟨r,r1,b',L,rfl,gZ,hW,hV,dH,hn,gy⟩:=vZ (body:=zRB x B)
  (Q:=fun r=> ∃(b:Mx)(L:Vec->Prop),r=(x,b)/\b.length=x.zA.length/\WlB x L b []/\(∀a,L a->V (suf x 0) a)/\(∀a,a∈M->L a)/\
   (∀a,L a->NCl (V (suf x 0)) (mul (suf x 0)) (zeros (suf x 0).length) (· ∈M) (· ∈B) a)/\(∀a b c,vS x L a->b∈B->V (suf x 0) c->mul (suf x 0) b c=mul (suf x 0) a b->vS x L c))
  (fun s=> ∃(b:Mx)(g:Bool)(L:Vec->Prop),s=(x,b,g)/\b.length=x.zA.length/\WlB x L b []/\(∀a,L a->V (suf x 0) a)/\(∀a,a∈M->L a)/\
   (∀a,L a->NCl (V (suf x 0)) (mul (suf x 0)) (zeros (suf x 0).length) (· ∈M) (· ∈B) a)/\(g=jh\/g=ji/\(∀a b c,vS x L a->b∈B->V (suf x 0) c->mul (suf x 0) b c=mul (suf x 0) a b->vS x L c)))
  (fun s=>qC s.2.1*2+(if s.2.2 then 1 else 0)) (fun s hs=>by
   obtain⟨b,g,L,rfl,hb,hW,hV,dH,hn,hg⟩:=hs;unfold zRB;simp only
   cases g with
   |false=>
    right;rw[zK];rcases hg with hg|⟨_,hg⟩
    ·cases hg
    ·exact⟨_,rfl,b,L,rfl,hb,hW,hV,dH,hn,hg⟩
   |true=>
    left;rw[zH];obtain⟨C,c1,c2⟩:=zEc h hc hb hW;have pP:=zFf h hc hV c2;have hu:∀a∈wB C 0 x.zA.length,V (suf x 0) a/\vS x L a:=fun a ha=>by have:=(pP a).2 (.x ha);exact⟨this.in G hV,this⟩
    have gU:=zCG C 0 x.zA.length;obtain⟨b2,g2,L2,r1,r2,r3,r4,r5,r6,r7⟩:=zPr h hc hB pq hV hn hb hW hu (by omega);rw[c1,bs,r1,bs];refine⟨_,rfl,⟨b2,g2,L2,rfl,r2,r3,r4,fun a ha=>r5 a (dH a ha),r6,?_⟩,?_⟩
    ·rcases r7 with⟨k0,k1,k2,k3⟩|⟨k0,_⟩
     ·refine .inr ⟨k0,fun a b c ha hbB cV hh=>?_⟩
      have pT:vS x L a:=ha.to fun q hq=>k2 q hq
      have pR:vS x L c:=Gen.conj G (fun u fq=>(hu u fq).1) (hB b hbB) (fun u v fq hv hh'=>by obtain⟨q1,q2,_,_⟩:=kM h hc (hu u fq).1 (hB b hbB);rw[G.cancel_l (hB b hbB) hv q1 (hh'.trans q2.symm)];exact k3 b hbB u fq) ((pP a).1 pT) cV hh
      exact pR.mono fun q hq=>r5 q hq
     ·exact .inl k0
    ·simp only
     rcases r7 with⟨rfl,rfl,_⟩|⟨rfl,k⟩
     ·simp
     ·simp;omega) 100000 (x,b,jh) (by have:=zBK b;simp only[if_true];omega) ⟨b,jh,(· ∈M),rfl,e2,e3,fun a ha=>hM a ha,fun _ h=>h,fun a ha=>.x ha,.inl rfl⟩
 obtain⟨C,c1,c2⟩:=zEc h hc gZ hW;refine⟨L,C,?_,c2,hV,NCl.iff G hn (fun a ha=>.x (dH a ha)) fun a b c ha hb cV hh=>gy a b c ha hb cV hh⟩;unfold zZ6 zX3;rw[yI,bs,bs,e1,bs,r1,bs,c1,bs]
end
noncomputable def cjs (x:SPr) (u B:Mx) (i:Nat):Mx:=((B.take i).map fun b=>u.map fun a=>cjf x a b).flatten
theorem zNo{B:Mx}(hi:i<B.length:=by omega):cjs x u B (i+1)=cjs x u B i++u.map (fun a=>cjf x a (B.getD i [])):=by rw[cjs,Lt,K6,Jba,J3 hi,J2,J3 hi];simp[cjs]
theorem zLo{x:SPr}{u B:Mx}:∀i,i<=B.length->(cjs x u B i).length=i*u.length
 |0,_=>by simp[cjs]
 |i+1,hi=>by rw[zNo,J5,zLo i (by omega),Jf,K8]
theorem zLp{B:Mx}:c∈cjs x u B B.length↔ ∃b∈B,∃a∈u,cjf x a b=c:=by
 simp only[cjs,Ln,List.mem_flatten,Jc];constructor
 ·rintro⟨l,⟨b,hb,rfl⟩,hc⟩
  obtain⟨a,ha,rfl⟩:=Jc.1 hc;exact⟨b,hb,a,ha,rfl⟩
 ·rintro⟨b,hb,a,ha,rfl⟩
  exact⟨_,⟨b,hb,rfl⟩,Jc.2 ⟨a,ha,rfl⟩⟩
section
variable {x:SPr} (h:Pres x) (hc:xC (suf x 0))
 include h hc
theorem zNp{B:Mx}(hu:∀a∈u,V (suf x 0) a)(gU:u.length<=14)(hB:∀a∈B,V (suf x 0) a)(pq:B.length<=50):
  zE (zTr x B u) (u,0)=jf (u++cjs x u B B.length):=by
 have gf:∀i,i<=B.length->(cjs x u B i).length<=700:=fun i hi=>by rw[zLo i hi];exact H8 (Jr (H8 hi pq) gU) (by decide)
 have l:=zO (body:=zTr x B u) (r:=u++cjs x u B B.length) (fun i=>(u++cjs x u B i,(i:Int))) B.length (fun i hi=>by
  have hm:B.getD i []∈B:=by rw[J2,J3 hi];exact Jp hi
  have gy:=gf i (by omega);have inner:=zO (body:=zX8 x B u (u++cjs x u B i,(i:Int))) (r:=u++cjs x u B (i+1)) (fun j=>(u++cjs x u B i++(u.take j).map (fun a=>cjf x a (B.getD i [])),(j:Int))) u.length (fun j hj=>by
   have mJ:u.getD j []∈u:=by rw[J2,J3 hj];exact Jp hj
   have eu:u.getD j []=u[j]:=by rw[J2,J3 hj];rfl
   unfold zX8;simp only
   rw[show decide ((j:Int)<(u.length:Int))=jh from jk,zH,yA [] hj,bs,yA [] hi,bs,(kM h hc (hu _ mJ) (hB _ hm)).2.2.2,bs,zV (by simp only[J5,Jf,Ke,Jb];omega),bs,zB,bs];rw[Lt,K6,J3 hj,eu,<-Jg];rfl) (by
   unfold zX8;simp only
   rw[show decide ((u.length:Int)<(u.length:Int))=ji from jj (by omega),zK,Ln,zNo hi,<-Jg])
  rw[Kd,Le,Jh,show((0:Nat):Int)=0 from rfl]at inner;unfold zTr;simp only
  rw[show decide ((i:Int)<(B.length:Int))=jh from jk,zH,inner,bs,zB,bs];rfl) (by
  unfold zTr;simp only
  rw[show decide ((B.length:Int)<(B.length:Int))=ji from jj (by omega),zK])
 rw[show cjs x u B 0=[]from rfl,Jh,show((0:Nat):Int)=0 from rfl]at l;exact l
theorem zNq{B:Mx}(hB:∀a∈B,V (suf x 0) a)(pq:B.length<=50){L0:Vec->Prop}(h0:∀a,L0 a->V (suf x 0) a)(n0:∀a,L0 a->NCl (V (suf x 0)) (mul (suf x 0)) (zeros (suf x 0).length) (· ∈M) (· ∈B) a)(m0:∀a∈M,vS x L0 a)
  {C0:Nat->Option Vec}(hC0:zAz x L0 C0):∃(L:Vec->Prop)(C:Nat->Option Vec),f_G x (wB C0 0 x.zA.length) B=jf (wB C 0 x.zA.length)/\zAz x L C/\(∀a,L a->V (suf x 0) a)/\
   ∀a,vS x L a↔NCl (V (suf x 0)) (mul (suf x 0)) (zeros (suf x 0).length) (· ∈M) (· ∈B) a:=by
 have h9:=h.os.1;have G:=g0 h hc;obtain⟨r,r1,L,C,rfl,r2⟩:=vZ (body:=zZ2 x B)
  (Q:=fun r=> ∃(L:Vec->Prop)(C:Nat->Option Vec),r=wB C 0 x.zA.length/\zAz x L C/\(∀a,L a->V (suf x 0) a)/\ ∀a,vS x L a↔NCl (V (suf x 0)) (mul (suf x 0)) (zeros (suf x 0).length) (· ∈M) (· ∈B) a)
  (fun s=> ∃(L:Vec->Prop)(C:Nat->Option Vec),s=wB C 0 x.zA.length/\zAz x L C/\(∀a,L a->V (suf x 0) a)/\(∀a,L a->NCl (V (suf x 0)) (mul (suf x 0)) (zeros (suf x 0).length) (· ∈M) (· ∈B) a)/\ ∀a∈M,vS x L a)
  (fun s=>14-s.length) (fun s hs=>by
   obtain⟨L,C,rfl,hC,hV,hn,hm⟩:=hs;have pP:=zFf h hc hV hC;have gU:=zCG C 0 x.zA.length;have hu:∀a∈wB C 0 x.zA.length,V (suf x 0) a/\vS x L a:=fun a ha=>by have:=(pP a).2 (.x ha);exact⟨this.in G hV,this⟩
   have m8:∀a,vS x L a->NCl (V (suf x 0)) (mul (suf x 0)) (zeros (suf x 0).length) (· ∈M) (· ∈B) a:=fun a ha=>by
    induction ha with
    |one=>exact .one
    |x hx=>exact hn _ hx
    |m _ _ i1 i2=>exact .m i1 i2
    |i _ hb hh i1=>exact .i i1 hb hh
   obtain⟨N,hN⟩:∃N,N=wB C 0 x.zA.length++cjs x (wB C 0 x.zA.length) B B.length:=⟨_,rfl⟩;have tz:∀a∈N,V (suf x 0) a:=fun a ha=>by
    rw[hN]at ha;rcases Ja.1 ha with ha|ha
    ·exact(hu a ha).1
    ·obtain⟨b,hb,c,dB,rfl⟩:=zLp.1 ha
     exact(kM h hc (hu c dB).1 (hB b hb)).1
   have hNn:∀a∈N,NCl (V (suf x 0)) (mul (suf x 0)) (zeros (suf x 0).length) (· ∈M) (· ∈B) a:=fun a ha=>by
    rw[hN]at ha;rcases Ja.1 ha with ha|ha
    ·exact m8 a (hu a ha).2
    ·obtain⟨b,hb,c,dB,rfl⟩:=zLp.1 ha
     obtain⟨q1,q2,_,_⟩:=kM h hc (hu c dB).1 (hB b hb);exact .c (m8 c (hu c dB).2) hb q1 q2
   have hNl:N.length<=1000:=by rw[hN,J5,zLo B.length (Je _)];have:=Jr pq (H8 gU h9);omega
   obtain⟨D,d1,d2⟩:=zEd h hc tz hNl;have ey:∀a,vS x L a->vS x (· ∈N) a:=fun a ha=>((pP a).1 ha).mono fun q hq=>by rw[hN];exact Ja.2 (.inl hq)
   have fd:=(Pc.some_len (C:=C) (D:=D) (K7 0 x.zA.length) (fun k _ hk=>Pc.Can.sub (zBX h hc) hC d2 ey hk)).1;have hdl:=zCG D 0 x.zA.length;unfold zZ2;rw[zDb (by omega) (fun i hi=>by have:=(hu ((wB C 0 x.zA.length).getD i []) (by rw[J2,J3 hi];exact Jp hi)).1;rw[zBy h hc this];omega),bs,zNp h hc (fun a ha=>(hu a ha).1) (by omega) hB pq,bs,<-hN,d1,bs]
   by_cases hl:(wB C 0 x.zA.length).length=(wB D 0 x.zA.length).length
   ·right
    rw[show(((wB D 0 x.zA.length).length:Int)==((wB C 0 x.zA.length).length:Int))=jh from by simp[hl],zH];have gQ:=zRw h hc (fun a ha=>tz a ha) hC d2 ey hl;refine⟨_,rfl,(· ∈N),D,rfl,d2,fun a ha=>tz a ha,NCl.iff G (fun a ha=>hNn a ha) (fun a ha=>ey a (hm a ha)) fun a b c ha hb cV hh=>?_⟩;refine Gen.conj G (fun u fq=>(hu u fq).1) (hB b hb) (fun u v fq hv hh'=>?_) ((pP a).1 ((gQ a).2 ha)) cV hh;obtain⟨q1,q2,_,_⟩:=kM h hc (hu u fq).1 (hB b hb);rw[G.cancel_l (hB b hb) hv q1 (hh'.trans q2.symm)];refine .x ?_;show _∈N;rw[hN];exact Ja.2 (.inr (zLp.2 ⟨b,hb,u,fq,rfl⟩))
   ·left
    rw[show(((wB D 0 x.zA.length).length:Int)==((wB C 0 x.zA.length).length:Int))=ji from by simp;omega,zK];have hle':(wB C 0 x.zA.length).length<=(wB D 0 x.zA.length).length:=fd;exact⟨_,rfl,⟨(· ∈N),D,rfl,d2,fun a ha=>tz a ha,fun a ha=>hNn a ha,fun a ha=>ey a (hm a ha)⟩,by omega⟩) 100 (wB C0 0 x.zA.length) (by omega) ⟨L0,C0,rfl,hC0,h0,n0,m0⟩
 refine⟨L,C,?_,r2⟩;unfold f_G;rw[r1,bs]
end
end Go.Pl
