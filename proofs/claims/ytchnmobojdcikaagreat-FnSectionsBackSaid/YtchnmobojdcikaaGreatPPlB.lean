/- x -/
import Derived.Test.YtchnmobojdcikaaGreatPPlA
import Derived.Test.YtchnmobojdcikaaGreatPWF
import Derived.Test.YtchnmobojdcikaaGreatPAbB
open List renaming replicate→J1,getD_eq_getElem?_getD→J2,getElem?_eq_getElem→J5,replicate_append_replicate→J9,getElem?_append_right→Ja,length_append→Jb,mem_map→Jd,append_assoc→Je,append_nil→Jf,map_cons→Jg,length_singleton→Jh,take_of_length_le→Jk,getElem?_map→Jm,range→Jn,take_left'→Jp,mem_range→Jq,nil_append→Js,all_eq_true→Jt,length_replicate→Ju,mem_iff_getElem→Jv,length_cons→Jw,getElem?_append_left→Jz,getElem?_append→K4,length_take→K7,ext_getElem?→K8,drop_left'→K9,getElem?_replicate→Ka,mem_append→Kd,length_drop→Kj,getElem_mem→Kt,replicate_succ→Kv,map_congr_left→L4,range_succ→L8,take_zero→Lb,length_set→Lm,getElem?_take→Lq,ext_getElem→Hj,cons_append→Hn,flatten_append→Hw,take_append_drop→G8,map_nil→Gf,append_cancel_left→U2,drop_zero→U5,getElem?_set_self→Qa
open Bool renaming and_eq_true→J3,not_true→J6,not_false→Jx
open Nat renaming zero_add→J7,le_refl→Ji,lt_or_ge→K2,zero_le→Kc,mul_le_mul_right→Ke,sub_self→Ks,add_sub_cancel_left→U3,add_zero→Uz,sub_zero→Qk
open Int renaming toNat_natCast→Jj,tdiv_eq_ediv_of_nonneg→Lg,zero_add→Lw,mul_le_mul_of_nonneg_left→H7,tmod_lt_of_pos→Gp,tmod_nonneg→Qb,tdiv_nonneg→Qc
open Option renaming getD_some→La,some→Hk
open Option renaming some→aB,none→aC
open Bool renaming true→aD,false→aE
namespace Go.Pl
open Go Go.Ab Go.Wk Go.Pc
def prE(x:SPr)(k:Nat)(w:Vec):zL:=⟨fv k (w.take (x.zA.length-k)),w.drop (x.zA.length-k)⟩
theorem sE{x:SPr}{k:Nat}{y u:Vec}(hy:y.length=x.zA.length-k):prE x k (y++u)=⟨fv k y,u⟩:=by grind[prE]
theorem zBx{α α' β:Type}{body:α×α'×Int→Option ((α×α'×Int)⊕(α×α'))}{S:β→Prop}(e1:β→α)(e2:β→α')(g:β→β)(n:Int)(hn:0≤n)(hS:∀a,S a→S (g a))
  (h:∀a(i:Nat),S a→(i:Int)<n→body (e1 a,e2 a,(i:Int))=aB (.inl (e1 (g a),e2 (g a),((i+1:Nat):Int))))(he:∀a,S a→body (e1 a,e2 a,n)=aB (.inr (e1 a,e2 a))){a:β}(ha:S a):
  zC body (e1 a,e2 a,0)=aB (e1 (iter n.toNat g a),e2 (iter n.toNat g a)):=by
 have eg:∀k,S (iter k g a):=fun k=>wO (S:=S) hS k ha
 exact zP (body:=body) (r:=(e1 (iter n.toNat g a),e2 (iter n.toNat g a))) (fun i=>(e1 (iter i g a),e2 (iter i g a),(i:Int))) n.toNat (by grind[vJ]) (by grind)
structure Mv (D n:Nat) (m0 m:zG):Prop where
 pr:m0.Prime=m.Prime
 mv:∀k,k<n→ ∀u,Row m.Prime D u→zU1 m0 u (k:Int)=aB (tJ m.Prime D u (m.zE.getD k []))
theorem Mv.self{n D:Nat}{m:zG}(hE:MOk n m D):Mv D n m m:=by
 refine⟨rfl,fun k hk u hu=>?_⟩;have h3:=hE.d3;have h1:=hE.d1;have hA:=hE.mat k hk;have fQ:=hu.1;have hl:=hE.len;unfold zU1;have e1:zJ1 m u (k:Int) ([],0)=aB (.inl (tJ m.Prime D u (m.zE.getD k []),(D:Int))):=by
  unfold zJ1;simp only
  rw[aG (by omega),zJ,hE.d,zD (by omega) (by omega),bs,Lw];have fa:zN u 0 (D:Int)=aB u:=by
   unfold zN;rw[if_pos (by omega)]
   congr 1
   rw[show((D:Int)).toNat=D from by omega,show(0:Int).toNat=0 from rfl,U5,Jk (by omega)]
  rw[fa,bs,zT [] (by omega),bs,zFM hE.p (by omega) hu hA,bs,zX (by grind[tJ,yT]),bs,bs,Js]
 have e2:zJ1 m u (k:Int) (tJ m.Prime D u (m.zE.getD k []),(D:Int))=aB (.inr (tJ m.Prime D u (m.zE.getD k []))):=by
  unfold zJ1
  simp_all
 grind[xG]
section
variable {D:Nat}{x:SPr}{m0 m:zG}{T:Mx} (h:Pres x) (hE:ExB x.zA.length D x m T) (hT:∀i,i<T.length→Row m.Prime D (T.getD i []))
def zOB(D:Nat)(x:SPr)(m0 m:zG)(T:Mx)(k:Nat)(g:yC→Int→zL→zL→Option zL):Prop:=
 ∀a b,V (suf (exx D x m T) k) a→V (suf (exx D x m T) k) b→g ⟨x,m0,T⟩ k (prE x k a) (prE x k b)=aB (prE x k (mul (suf (exx D x m T) k) a b))
def zOC(D:Nat)(x:SPr)(m0 m:zG)(T:Mx)(k:Nat)(g:yC→Int→zL→Option zL):Prop:=
 ∀v,V (suf (exx D x m T) (k+1)) v→g ⟨x,m0,T⟩ k (prE x (k+1) v)=aB (prE x (k+1) (sig (suf (exx D x m T) (k+1)) (lvl (exx D x m T) k) v))
 include h hE hT
theorem zLM{k i j:Nat}(hk:k≤i)(hi:i<j)(hj:j<x.zA.length):zJ0 ⟨x,m0,T⟩ (i:Int) (j:Int)=aB (prE x (k+1) ((((exx D x m T).zB.getD i []).getD (j-(i+1)) []).drop (k+1)))∧V (suf (exx D x m T) (k+1)) ((((exx D x m T).zB.getD i []).getD (j-(i+1)) []).drop (k+1)):=by
 have hn:=hE.hn;have hb:=zCr x.zA.length (by omega) i (by omega);have ht:=hE.t;obtain⟨_,t2,t3⟩:=h.tl i (by omega);have tt:=t3 (j-(i+1)) (by omega);obtain⟨e1,e2⟩:=zBW (k:=k+1) tt (by omega) (by omega);have hl:=tW h (by omega) e2;have gC:=h.cl;have hr:=zJk h hE hT hi hj;refine⟨?_,?_⟩
 ·rw[zHG h hE hT hk hi hj,sE hl,←e1]
  unfold zJ0;dsimp only
  rw[zT [] (by omega),bs,zD (by omega) (by omega),bs,zD (by omega) (by omega),bs,show(j:Int)-(i:Int)-1=((j-(i+1):Nat):Int)from by omega,zT [] (by omega),bs,zKe x.zA.length (by omega) j hj i hi,bs,zT [] (by omega),bs,show j-i-1=j-(i+1)from by omega]
 ·rw[zHG h hE hT hk hi hj]
  exact(zBZ h hE hT (x.zA.length-(k+1)) (k+1) (by omega) _).2 ⟨_,_,rfl,e2,hr⟩
theorem zD8{k j:Nat}(hk:k<j)(hj:j<x.zA.length):zJ0 ⟨x,m0,T⟩ (k:Int) (j:Int)=aB (prE x (k+1) ((lvl (exx D x m T) k).cs.getD (j-(k+1)) []))∧V (suf (exx D x m T) (k+1)) ((lvl (exx D x m T) k).cs.getD (j-(k+1)) []):=by
 have e:(lvl (exx D x m T) k).cs.getD (j-(k+1)) []=(((exx D x m T).zB.getD k []).getD (j-(k+1)) []).drop (k+1):=by
  have hC:((exx D x m T).zB.getD k []).length=x.zA.length+D-1-k:=by rw[zGb h hE hT (by omega),exC,if_pos (by omega),yW]
  simp only[lvl];rw[J2,Jm,J5 (by omega),J2 (l:=(exx D x m T).zB.getD k []),J5 (by omega)];rfl
 rw[e];exact zLM h hE hT (Ji k) hk hj
theorem zHH{k j:Nat}(hk:k≤j)(hj:j<x.zA.length):zMX ⟨x,m0,T⟩ (j:Int)=aB (prE x (k+1) (((exx D x m T).zF.getD j []).drop (k+1)))∧V (suf (exx D x m T) (k+1)) (((exx D x m T).zF.getD j []).drop (k+1)):=by
 have hn:=hE.hn;have hb:=uO x.zA.length (by omega);have ht:=hE.t;have eO:=h.pl;have t1:=(h.tl j hj).1;obtain⟨e1,e2⟩:=zBW (k:=k+1) t1 (by omega) (by omega);have hl:=tW h (by omega) e2;have hr:=zEk h hE hT hj;refine⟨?_,?_⟩
 ·rw[zHF h hE hT hk hj,sE hl,←e1]
  grind[zMX,zT]
 ·rw[zHF h hE hT hk hj]
  exact(zBZ h hE hT (x.zA.length-(k+1)) (k+1) (by omega) _).2 ⟨_,_,rfl,e2,hr⟩
theorem zHI{k:Nat}(hk:k≤x.zA.length)(h0:0<x.zA.length):zK5 ⟨x,m0,T⟩=aB (prE x k (zeros (suf (exx D x m T) k).length)):=by
 have hn:=hE.hn;have h3:=hE.m.d3;have hb:=uO x.zA.length (by omega);have ht:=hE.t;have hr:=zEk h hE hT h0;have cu:=hr.1;unfold zK5;dsimp only
 have e0:ixO T 0=aB (T.getD 0 []):=by grind[zT]
 rw[aG (by omega),zJ,e0,bs,yX (by omega),bs,yX (by omega),bs,zAL h hE hT hk,sE (zM _),cu,fv]
 grind[zeros,J9]
theorem zOD{u v:Vec}(hu:Row m.Prime D u)(hv:Row m.Prime D v):zMU m.Prime u 1 v=aB (adv m.Prime D u v):=by
 have _:=h;have _:=hT;have h3:=hE.m.d3;rw[zE4 hE.m.p hu hv (by omega) (by omega)]
 congr 1
 exact yO (by simp)
theorem prV{k:Nat}(hk:k≤x.zA.length){w:Vec}(hw:V (suf (exx D x m T) k) w):∃y u,w=y++u∧V (suf x k) y∧Row m.Prime D u∧prE x k w=⟨fv k y,u⟩∧y.length=x.zA.length-k:=by obtain⟨y,u,rfl,hy,hu⟩:=(zBZ h hE hT (x.zA.length-k) k (by omega) _).1 hw;have ff:=tW h hk hy;exact⟨y,u,rfl,hy,hu,sE ff,ff⟩
variable (hM:Mv D x.zA.length m0 m)
 include hM
theorem zJm{k:Nat}(hk:k<x.zA.length){g:yC→Int→zL→zL→Option zL}(hg:zOB D x m0 m T (k+1) g):zOC D x m0 m T k (b_r g):=by
 intro v hv;have hn:=hE.hn;have hp:=hE.m.p.pos;have ok:=zAb h hE hT (k:=k+1) (by omega);have hA:=hE.m.mat k hk;obtain⟨y,u,rfl,hy,hu,eu,ff⟩:=prV h hE hT (k:=k+1) (by omega) hv;obtain⟨_,hyr⟩:=zCV h.os (x.zA.length-(k+1)) (k+1) y (by omega) hy;have gC:=zD4 h hE hT (k:=k);have gK:=zO4 h hE hT hk;have hcg:∀i,i<x.zA.length-(k+1)→(eC1 x T k).getD i []=(lvl (exx D x m T) k).cs.getD i []:=fun i hi=>by rw[zFY h hE hT hk,J2,J2,Jz (by omega)]
 obtain⟨A,bz⟩:∃A:Nat→Vec,∀i,A i=img (mul (suf (exx D x m T) (k+1))) ((eC1 x T k).take i) (y.take i) (zeros (suf (exx D x m T) (k+1)).length):=⟨_,fun _=>rfl⟩;have hI:∀i,V (suf (exx D x m T) (k+1)) (A i):=fun i=>by rw[bz];exact sD (yU ok) _ _ (by grind) (xR ok)
 have hA0:A 0=zeros (suf (exx D x m T) (k+1)).length:=by grind[img]
 have hAn:A (x.zA.length-(k+1))=sgG D x m T k y:=by rw[bz,Jk (by omega),Jk (by omega)];rfl
 rw[eu];unfold b_r;dsimp only
 rw[zHI h hE hT (k:=k+1) (by omega) (by omega),bs,zD (by omega) (by omega),bs,cs];have:=zP (body:=zRD g ⟨x,m0,T⟩ k ⟨fv (k+1) y,u⟩) (r:=((prE x (k+1) (sgG D x m T k y)).x,(prE x (k+1) (sgG D x m T k y)).v))
  (fun i=>((prE x (k+1) (A i)).x,(prE x (k+1) (A i)).v,((k+1+i:Nat):Int))) (x.zA.length-(k+1)) (fun i hi=>by
  have hr:=hyr i hi;obtain⟨c1,c2⟩:=zD8 h hE hT (k:=k) (j:=k+1+i) (by omega) (by omega);rw[show k+1+i-(k+1)=i from by omega]at c1 c2;unfold zRD;dsimp only
  rw[aG (by grind[zBU]),zJ];rw[zBx (S:=V (suf (exx D x m T) (k+1))) (fun w=>(prE x (k+1) w).x) (fun w=>(prE x (k+1) w).v) (fun w=>mul (suf (exx D x m T) (k+1)) w ((lvl (exx D x m T) k).cs.getD i [])) (at0 y i) hr.1 (by grind[yU]) (fun w q hw hq=>by
   unfold zU2;dsimp only
   rw[fv,zIL (by omega),bs,aG hq,zJ,zD (by omega) (by omega),bs,c1,bs,cs,show(zL.mk (prE x (k+1) w).x (prE x (k+1) w).v)=prE x (k+1) w from rfl,hg w _ hw c2,bs,zD (by omega) (by omega),bs,cs]) (fun w hw=>by
   unfold zU2;dsimp only
   rw[fv,zIL (by omega),bs,aF (by omega),zK]) (hI i),bs,zD (by omega) (by omega),bs,cs]
  rw[bz (i+1),zBc _ _ _ _ (by omega) (by omega),hcg i hi,←bz];rfl) (by
  unfold zRD;dsimp only
  rw[aF (by grind[zBU]),zK,hAn])
 rw[hA0,Uz]at this;rw[this,bs,hM.mv k hk _ hu,bs];obtain⟨y1,u1,e,fL,ml,bW,cJ⟩:=prV h hE hT (k:=k+1) (by omega) (zO5 h hE hT hk (y:=y));rw[zKn h hE hT hk hy hu,bW,e,Jp cJ,K9 cJ,sE cJ];dsimp only
 rw[hM.pr,zOD h hE hT ml (uN (by omega)),bs]
theorem zOE{k:Nat}(hk:k<x.zA.length){g:yC→Int→zL→zL→Option zL}{gi:yC→Int→zL→Option zL}(hg:zOB D x m0 m T (k+1) g)(hi:zOC D x m0 m T k gi):zOB D x m0 m T k (b_o gi g):=by
 have _:=hM;intro a b ha hb;have hn:=hE.hn;have hl:=wU h hE hT;have hp:=(h.os.2 k hk).pos;have ok:=zAb h hE hT (k:=k+1) (by omega);have ok0:=zAb h hE hT (k:=k) (by omega);obtain⟨al,au,rfl,pD,hau,eE,eH⟩:=prV h hE hT (k:=k) (by omega) ha;obtain⟨bl,bu,rfl,cb,hbu,pS,hbll⟩:=prV h hE hT (k:=k) (by omega) hb;rw[eE,pS];rw[zZ (x:=x) hk]at pD cb;rw[zZ (x:=exx D x m T) (by omega)]at ok0 ⊢
 obtain⟨a0,a,rfl⟩:∃a0 a',al=a0::a':=by cases al with|nil=>grind|cons p q=>simp
 obtain⟨b0,b,rfl⟩:∃a0 a',bl=a0::a':=by cases bl with|nil=>grind|cons p q=>simp
 obtain⟨⟨a1,a2⟩,pD⟩:=pD;obtain⟨⟨b1,b2⟩,cb⟩:=cb;change a0<at0 x.zA k at a2;change b0<at0 x.zA k at b2;have aw:=tW h (by omega) pD;have ao:=tW h (by omega) cb;have hA:=(zBZ h hE hT (x.zA.length-(k+1)) (k+1) (by omega) (a++au)).2 ⟨_,_,rfl,pD,hau⟩;have hB:=(zBZ h hE hT (x.zA.length-(k+1)) (k+1) (by omega) (b++bu)).2 ⟨_,_,rfl,cb,hbu⟩;have own:∀u,V (suf x (k+1)) u→f_m (fv (k+1) u)=aB (fv (k+1) u):=by grind[wI,zBU]
 have own':∀(c:Int) u,V (suf x (k+1)) u→f_m (fv k (c::u))=aB (fv k (c::u)):=fun c u hu=>wI (by have:=tW h (by omega) hu;rw[fv,Jb,zM,Jw];omega)
 have ep:∀u,V (suf (exx D x m T) (k+1)) u→V (suf (exx D x m T) (k+1)) (sig (suf (exx D x m T) (k+1)) (lvl (exx D x m T) k) u):=by grind[zBQ]
 have eg:V (suf (exx D x m T) (k+1)) (iter b0.toNat (sig (suf (exx D x m T) (k+1)) (lvl (exx D x m T) k)) (a++au)):=wO ep _ hA;have ea:(⟨fv (k+1) a,au⟩:zL)=prE x (k+1) (a++au):=(sE aw).symm;have eb:(⟨fv (k+1) b,bu⟩:zL)=prE x (k+1) (b++bu):=(sE ao).symm;unfold b_o;dsimp only
 rw[aF (by omega),zK,own' _ _ pD,bs,own' _ _ cb,bs,zBS,bs,zBS,bs,Jj,zCD,zCD,zBr,zBr];have e1:zC (zPE gi ⟨x,m0,T⟩ k ⟨fv k (b0::b),bu⟩) (zeros (k+1)++a,au,0)=aB ((prE x (k+1) (iter b0.toNat (sig (suf (exx D x m T) (k+1)) (lvl (exx D x m T) k)) (a++au))).x,(prE x (k+1) (iter b0.toNat (sig (suf (exx D x m T) (k+1)) (lvl (exx D x m T) k)) (a++au))).v):=by
  have:=zBx (body:=zPE gi ⟨x,m0,T⟩ k ⟨fv k (b0::b),bu⟩) (S:=V (suf (exx D x m T) (k+1))) (fun w=>(prE x (k+1) w).x) (fun w=>(prE x (k+1) w).v) (sig (suf (exx D x m T) (k+1)) (lvl (exx D x m T) k)) b0 b1 ep (fun w q hw hq=>by
   unfold zPE;dsimp only
   rw[zBS,bs,aG hq,zJ,show(zL.mk (prE x (k+1) w).x (prE x (k+1) w).v)=prE x (k+1) w from rfl,hi w hw,bs,zD (by omega) (by omega),bs,cs]) (fun w hw=>by
   unfold zPE;dsimp only
   rw[zBS,bs,aF (by omega),zK]) hA
  grind
 rw[e1,bs,zD (by omega) (by omega),bs,cs];dsimp only
 rw[show zeros (k+1)++b=fv (k+1) b from rfl,eb,show(zL.mk (prE x (k+1) (iter b0.toNat (sig (suf (exx D x m T) (k+1)) (lvl (exx D x m T) k)) (a++au))).x (prE x (k+1) (iter b0.toNat (sig (suf (exx D x m T) (k+1)) (lvl (exx D x m T) k)) (a++au))).v)=prE x (k+1) (iter b0.toNat (sig (suf (exx D x m T) (k+1)) (lvl (exx D x m T) k)) (a++au))from rfl,hg _ _ eg hB,bs,bs,bs,zD (by omega) (by omega),bs,yK hk,bs];have hm:=yU ok eg hB;show _=aB (prE x k (mul _ (a0::(a++au)) (b0::(b++bu))));rw[yJ,zD2 h hE hT hk]
 generalize mul (suf (exx D x m T) (k+1)) (iter b0.toNat (sig (suf (exx D x m T) (k+1)) (lvl (exx D x m T) k)) (a++au)) (b++bu)=r at hm ⊢
 have fin:∀(c:Int) w,V (suf (exx D x m T) (k+1)) w→((f_m (prE x (k+1) w).x).bind fun r22=>(ixO r22 (k:Int)).bind fun _=>aB (zL.mk (r22.set k c) (prE x (k+1) w).v))=aB (prE x k (c::w)):=fun c w hw=>by
  obtain⟨w1,w2,rfl,h1,h2,h3,h4⟩:=prV h hE hT (k:=k+1) (by omega) hw;have e3:prE x k (c::(w1++w2))=⟨fv k (c::w1),w2⟩:=by grind[sE]
  rw[h3,e3];dsimp only
  rw[own _ h1,bs,fv,←zBr,zBS,bs,zCD]
 by_cases hge:a0+b0≥at0 x.zA k
 ·obtain⟨p1,p2⟩:=zHH h hE hT (k:=k) (j:=k) (Ji k) hk
  change V (suf (exx D x m T) (k+1)) (lvl (exx D x m T) k).w at p2;rw[aG hge,zJ,if_pos hge,bs,zD (by omega) (by omega),bs,bs,p1,bs];have e4:=hg _ _ p2 hm;rw[show(((exx D x m T).zF.getD k []).drop (k+1))=(lvl (exx D x m T) k).w from rfl,e4,bs]
  grind[yU]
 ·rw[aF hge,zK,if_neg hge]
  grind
theorem zDa:∀(d k:Nat),k+d=x.zA.length→(∀q,2*d+1≤q→zOB D x m0 m T k (zRF q))∧(1≤d→ ∀q,2*d≤q→zOC D x m0 m T k (zRE q))
 |0,k,hk=>by
  refine⟨fun q hq a b ha hb=>?_,fun h=>by omega⟩;have hn:=hE.hn;have hp:=hE.m.p.pos;obtain⟨q,rfl⟩:∃m',q=m'+1:=⟨q-1,by omega⟩;rw[zBw h hE hT D k (by omega) (by omega)]at ha hb ⊢
  have ha':=(zE5 _ _).1 ha;have ej:=(zE5 _ _).1 hb;show b_o _ _ ⟨x,m0,T⟩ k _ _=_;unfold b_o;have e:∀w:Vec,prE x k w=⟨zeros k,w⟩:=fun w=>by rw[prE,show x.zA.length-k=0 from by omega,Lb,U5,fv,Jf]
  rw[e,e,e];dsimp only
  rw[aG (by omega),zJ,yX (by omega),bs,hM.pr,zOD h hE hT ha' ej,bs,jY (by omega) D _ _ ha' ej,show x.zA.length=k from by omega];rfl
 |d+1,k,hk=>by
  obtain⟨h1,h2⟩:=zDa d (k+1) (by omega);have hI:∀q,2*(d+1)≤q→zOC D x m0 m T k (zRE q):=fun q hq=>by obtain⟨q,rfl⟩:∃m',q=m'+1:=⟨q-1,by omega⟩;exact zJm h hE hT hM (by omega) (h1 q (by omega))
  refine⟨fun q hq=>?_,fun _=>hI⟩;obtain⟨q,rfl⟩:∃m',q=m'+1:=⟨q-1,by omega⟩;exact zOE h hE hT hM (by omega) (h1 q (by omega)) (hI q (by omega))
theorem zGc{k:Nat}(hk:k≤x.zA.length):zOB D x m0 m T k f_o:=fun a b ha hb=>
 zAv (2*(x.zA.length-k)+1) fun q hq=>(zDa h hE hT hM (x.zA.length-k) k (by omega)).1 q hq a b ha hb
theorem zAE{k:Nat}(hk:k<x.zA.length):zOC D x m0 m T k f_r:=fun v hv=>
 zAv (2*(x.zA.length-k)) fun q hq=>(zDa h hE hT hM (x.zA.length-k) k (by omega)).2 (by omega) q hq v hv
end
end Go.Pl

namespace Go.Pl
open Go Go.Ab Go.Wk Go.Pc
structure GR (p:Int) (D:Nat) (Z:Vec→Prop) (L:Mx) (N:Nat) (C:Prop):Prop where
 len:L.length≤N
 row:∀r∈L,Row p D r
 iff:(∀r∈L,Z r)↔C
theorem GR.nil{p:Int}{D N:Nat}{Z:Vec→Prop}:GR p D Z [] N True:=⟨by simp,by simp,by simp⟩
theorem GR.app{p:Int}{D N M:Nat}{Z:Vec→Prop}{L L':Mx}{C C':Prop}(h:GR p D Z L N C)(h':GR p D Z L' M C'):GR p D Z (L++L') (N+M) (C∧C'):=by
 refine⟨by have:=h.len;have:=h'.len;grind,fun r hr=>?_,?_⟩
 ·rcases Kd.1 hr with g|g
  ·exact h.row r g
  ·exact h'.row r g
 ·rw[←h.iff,←h'.iff]
  grind
theorem GR.one{p:Int}{D:Nat}{Z:Vec→Prop}{r:List Int}{C:Prop}(hr:Row p D r)(h:Z r↔C):GR p D Z [r] 1 C:=
 ⟨by simp,by grind,by grind⟩
theorem GR.to{p:Int}{D N M:Nat}{Z:Vec→Prop}{L:Mx}{C C':Prop}(h:GR p D Z L N C)(hN:N≤M)(hc:C↔C'):GR p D Z L M C':=⟨by have:=h.len;omega,h.row,h.iff.trans hc⟩
def c1Q(Q:Nat→Vec→Vec→Prop)(e:SPr)(k j:Nat):Prop:=Q (k+1) (pw (mul (suf e (k+1))) (zeros (suf e (k+1)).length) ((lvl e k).cs.getD (j-(k+1)) []) (at0 e.zA j).toNat) (sig (suf e (k+1)) (lvl e k) ((e.zF.getD j []).drop (k+1)))
def c2Q(Q:Nat→Vec→Vec→Prop)(e:SPr)(k i j:Nat):Prop:=Q (k+1) (mul (suf e (k+1)) ((lvl e k).cs.getD (j-(k+1)) []) ((lvl e k).cs.getD (i-(k+1)) [])) (mul (suf e (k+1)) ((lvl e k).cs.getD (i-(k+1)) []) (sig (suf e (k+1)) (lvl e k) (((e.zB.getD i []).getD (j-(i+1)) []).drop (k+1))))
def c4Q(Q:Nat→Vec→Vec→Prop)(e:SPr)(k j:Nat):Prop:=Q (k+1) (mul (suf e (k+1)) (lvl e k).w (iter (lvl e k).o.toNat (sig (suf e (k+1)) (lvl e k)) (xL (e.zA.length-(k+1)) (j-(k+1))))) (mul (suf e (k+1)) (xL (e.zA.length-(k+1)) (j-(k+1))) (lvl e k).w)
structure LCQ (Q:Nat→Vec→Vec→Prop) (x e:SPr) (k:Nat):Prop where
 c1:∀j,k+1≤j→j<x.zA.length→c1Q Q e k j
 c2:∀i,k+1≤i→i<x.zA.length→ ∀j,i+1≤j→j<x.zA.length→c2Q Q e k i j
 c3:Q (k+1) (sig (suf e (k+1)) (lvl e k) (lvl e k).w) (lvl e k).w
 c4:∀j,k+1≤j→j<x.zA.length→c4Q Q e k j
section
variable {D:Nat}{x:SPr}{m0 m:zG}{T:Mx} (h:Pres x) (hE:ExB x.zA.length D x m T) (hT:∀i,i<T.length→Row m.Prime D (T.getD i []))
 include h hE hT
theorem zGd{k:Nat}(hk:k≤x.zA.length){a b:Vec}(ha:V (suf (exx D x m T) k) a)(hb:V (suf (exx D x m T) k) b):(mul (suf (exx D x m T) k) a b).take (x.zA.length-k)=mul (suf x k) (a.take (x.zA.length-k)) (b.take (x.zA.length-k)):=by grind[zCv]
theorem zHJ{k:Nat}(hk:k<x.zA.length){v:Vec}(hv:V (suf (exx D x m T) (k+1)) v):(sig (suf (exx D x m T) (k+1)) (lvl (exx D x m T) k) v).take (x.zA.length-(k+1))=sig (suf x (k+1)) (lvl x k) (v.take (x.zA.length-(k+1))):=
 by grind[zD7,zCv]
theorem zEl{k:Nat}(hk:k<x.zA.length){v:Vec}(hv:V (suf (exx D x m T) (k+1)) v):V (suf (exx D x m T) (k+1)) (sig (suf (exx D x m T) (k+1)) (lvl (exx D x m T) k) v):=by
 have gE:=zAb h hE hT (k:=k) (by omega);rw[zZ (x:=exx D x m T) (by grind[wU])]at gE
 grind[zBQ]
theorem zLN{k:Nat}(hk:k<x.zA.length):∀(q:Nat){v:Vec},V (suf (exx D x m T) (k+1)) v→(iter q (sig (suf (exx D x m T) (k+1)) (lvl (exx D x m T) k)) v).take (x.zA.length-(k+1))=iter q (sig (suf x (k+1)) (lvl x k)) (v.take (x.zA.length-(k+1)))
 |0,_,_=>rfl
 |q+1,v,hv=>by have:=zLN hk q (zEl h hE hT hk hv);rw[zHJ h hE hT hk hv]at this;exact this
theorem zRg{k:Nat}(hk:k≤x.zA.length):(zeros (suf (exx D x m T) k).length).take (x.zA.length-k)=zeros (suf x k).length:=by grind[zAL,zM,yM]
theorem zWp{k:Nat}(hk:k≤x.zA.length){c:Vec}(hc:V (suf (exx D x m T) k) c)(q:Nat):(pw (mul (suf (exx D x m T) k)) (zeros (suf (exx D x m T) k).length) c q).take (x.zA.length-k)=pw (mul (suf x k)) (zeros (suf x k).length) (c.take (x.zA.length-k)) q:=by have ok:=zAb h hE hT (k:=k) (by omega);have:=zD3 (S:=V (suf (exx D x m T) k)) (n:=mul (suf x k)) (·.take (x.zA.length-k)) (fun a b=>yU ok) (by grind[zGd]) [c] [(q:Int)] (zeros (suf (exx D x m T) k).length) (by grind) (xR ok);simp only[Jg,Gf,img,Jj]at this;rw[zRg h hE hT hk]at this;exact this
section
variable {k:Nat} (hk:k<x.zA.length)
 include hk
theorem zOF{j:Nat}(h1:k+1≤j)(h2:j<x.zA.length):((lvl (exx D x m T) k).cs.getD (j-(k+1)) []).take (x.zA.length-(k+1))=(lvl x k).cs.getD (j-(k+1)) []:=by rw[zLL h hE hT hk h1 h2,Jp (tW h (by omega) (tX h hk h1 h2).2.2)]
theorem zKp{j:Nat}(h1:k≤j)(h2:j<x.zA.length):(((exx D x m T).zF.getD j []).drop (k+1)).take (x.zA.length-(k+1))=(x.zF.getD j []).drop (k+1):=by
 have t1:=(h.tl j h2).1.1.1
 grind[zHF]
theorem zUe{i j:Nat}(h1:k+1≤i)(h2:i<j)(h3:j<x.zA.length):((((exx D x m T).zB.getD i []).getD (j-(i+1)) []).drop (k+1)).take (x.zA.length-(k+1))=((x.zB.getD i []).getD (j-(i+1)) []).drop (k+1):=by rw[zHG h hE hT (by omega) h2 h3,Jp (tW h (by omega) (zL6 h hk h1 h2 h3).2.2)]
theorem zUf{j:Nat}(h1:k+1≤j)(h2:j<x.zA.length):xL ((exx D x m T).zA.length-(k+1)) (j-(k+1))=xL (x.zA.length-(k+1)) (j-(k+1))++zeros D:=by
 rw[wU h hE hT,zAh (by omega),zAh (by omega),Je,Hn]
 grind[zeros,J9]
end
variable (hM:Mv D x.zA.length m0 m) {Z:Vec→Prop}{Q:Nat→Vec→Vec→Prop} (hZ:∀k,k≤x.zA.length→ ∀a b,V (suf (exx D x m T) k) a→V (suf (exx D x m T) k) b→a.take (x.zA.length-k)=b.take (x.zA.length-k)→(Z (zEF m.Prime D (a.drop (x.zA.length-k)) (-1) (b.drop (x.zA.length-k)))↔Q k a b))
 include hM hZ
theorem zHK{k:Nat}(hk:k≤x.zA.length){a b:Vec}(ha:V (suf (exx D x m T) k) a)(hb:V (suf (exx D x m T) k) b)(e:a.take (x.zA.length-k)=b.take (x.zA.length-k)):∃r,zK6 ⟨x,m0,T⟩ (prE x k a) (prE x k b)=aB r∧Row m.Prime D r∧(Z r↔Q k a b):=by
 have h7:=hE.m.p.pos;have h3:=hE.m.d3;obtain⟨y,u,rfl,hy,hu,eu,ff⟩:=prV h hE hT hk ha;obtain⟨z,v,rfl,hz,hv,bV,cf⟩:=prV h hE hT hk hb;have pK:=hZ k hk _ _ ha hb e;rw[K9 ff,K9 cf]at pK;unfold zK6;rw[eu,bV];dsimp only
 rw[hM.pr,zD (by omega) (by omega),bs,zE4 hE.m.p hu hv (by omega) (by omega),bs,zKc];exact⟨_,rfl,zO0 hE.m.p,pK⟩
section
variable {k:Nat} (hk:k<x.zA.length) (hc:LC x k)
 include hk
 include hc
theorem zXk{j:Nat}(h1:k+1≤j)(h2:j<x.zA.length){L0 L:Mx}{N:Nat}{C:Prop}(hL:GR m.Prime D Z L N C)(hN:N≤1000){f:Mx→Option (Mx×Int⊕Mx)}:∃L',((zK5 ⟨x,m0,T⟩).bind fun r2=>
  (zC (zPF ⟨x,m0,T⟩ (k:Int) (L0,(j:Int))) (r2.x,r2.v,0)).bind fun r8=>
  (zMX ⟨x,m0,T⟩ (j:Int)).bind fun r9=>
  (f_r ⟨x,m0,T⟩ (k:Int) r9).bind fun r10=>
  (zK6 ⟨x,m0,T⟩ (zL.mk r8.1 r8.2) r10).bind fun r11=>
  (yD L [r11]).bind f)=f L'∧GR m.Prime D Z L' (N+1) (C∧c1Q Q (exx D x m T) k j):=by
 have ok:=zAb h hE hT (k:=k+1) (by omega);have hn:=hE.hn;have hp:=(h.os.2 j h2).pos;have hz:=xR ok;obtain⟨c1,c2⟩:=zD8 h hE hT (k:=k) (j:=j) (by omega) h2;obtain⟨p1,p2⟩:=zHH h hE hT (k:=k) (j:=j) (by omega) h2;have hA:=zGc h hE hT hM (k:=k+1) (by omega);have hI:=zAE h hE hT hM hk;have tu:zC (zPF ⟨x,m0,T⟩ (k:Int) (L0,(j:Int))) ((prE x (k+1) (zeros (suf (exx D x m T) (k+1)).length)).x,(prE x (k+1) (zeros (suf (exx D x m T) (k+1)).length)).v,0)=aB ((prE x (k+1) (pw (mul (suf (exx D x m T) (k+1))) (zeros (suf (exx D x m T) (k+1)).length) ((lvl (exx D x m T) k).cs.getD (j-(k+1)) []) (at0 x.zA j).toNat)).x,(prE x (k+1) (pw (mul (suf (exx D x m T) (k+1))) (zeros (suf (exx D x m T) (k+1)).length) ((lvl (exx D x m T) k).cs.getD (j-(k+1)) []) (at0 x.zA j).toNat)).v):=
  zBx (S:=V (suf (exx D x m T) (k+1))) (fun w=>(prE x (k+1) w).x) (fun w=>(prE x (k+1) w).v) (fun w=>mul (suf (exx D x m T) (k+1)) w ((lvl (exx D x m T) k).cs.getD (j-(k+1)) [])) (at0 x.zA j) (by omega) (by grind[yU]) (fun w q hw hq=>by
   unfold zPF;dsimp only
   rw[yK h2,bs,aG hq,zJ,zD (by omega) (by omega),bs,c1,bs,cs,show(zL.mk (prE x (k+1) w).x (prE x (k+1) w).v)=prE x (k+1) w from rfl,hA w _ hw c2,bs,zD (by omega) (by omega),bs,cs]) (fun w hw=>by
   simp_all[zPF,yK]) hz
 have bi:V (suf (exx D x m T) (k+1)) (pw (mul (suf (exx D x m T) (k+1))) (zeros (suf (exx D x m T) (k+1)).length) ((lvl (exx D x m T) k).cs.getD (j-(k+1)) []) (at0 x.zA j).toNat):=wO (by grind[yU]) _ hz;obtain⟨r,r1,r2,r3⟩:=zHK h hE hT hM hZ (k:=k+1) (by omega) bi (zEl h hE hT hk p2) (by rw[zWp h hE hT (by omega) c2,zHJ h hE hT hk p2,zOF h hE hT hk h1 h2,zKp h hE hT hk (by omega) h2];exact hc.c1 j h1 h2)
 have bo:=hL.len;refine⟨L++[r],?_,hL.app (GR.one r2 (r3.trans ?_))⟩
 ·rw[zHI h hE hT (k:=k+1) (by omega) (by omega),bs,tu,bs,p1,bs,hI _ p2,bs]
  dsimp only
  rw[r1,bs,zX (by simp;omega),bs]
 ·unfold c1Q;rw[zBu h hE hT h2]
theorem zXl{j:Nat}(h1:k+1≤j)(h2:j<x.zA.length){L0 L:Mx}{N:Nat}{C:Prop}(hL:GR m.Prime D Z L N C)(hN:N≤1000):∃L',zC (zPG ⟨x,m0,T⟩ (k:Int) (L0,(j:Int))) (L,((j+1:Nat):Int))=aB L'∧GR m.Prime D Z L' (N+(x.zA.length-(j+1))) (C∧ ∀j2,j+1≤j2→j2<x.zA.length→c2Q Q (exx D x m T) k j j2):=by
 have ok:=zAb h hE hT (k:=k+1) (by omega);have hn:=hE.hn;have hA:=zGc h hE hT hM (k:=k+1) (by omega);have hI:=zAE h hE hT hM hk;refine uS (fun i(s:Mx×Int)=>s.2=((j+1+i:Nat):Int)∧GR m.Prime D Z s.1 (N+i) (C∧ ∀j2,j+1≤j2→j2<j+1+i→c2Q Q (exx D x m T) k j j2)) (x.zA.length-(j+1)) (fun i s hi ⟨hs,hg⟩=>?_) (fun s ⟨hs,hg⟩=>?_) ⟨rfl,hL.to (by omega) (by grind)⟩
 ·left
  obtain⟨L1,s2⟩:=s;dsimp only at hs hg;subst hs;have g2:j+1+i<x.zA.length:=by omega
  obtain⟨a1,a2⟩:=zD8 h hE hT (k:=k) (j:=j) (by omega) h2;obtain⟨b1,b2⟩:=zD8 h hE hT (k:=k) (j:=j+1+i) (by omega) g2;obtain⟨d1,d2⟩:=zLM h hE hT (k:=k) (i:=j) (j:=j+1+i) (by omega) (by omega) g2;have hs:=zEl h hE hT hk d2;obtain⟨r,r1,r2,r3⟩:=zHK h hE hT hM hZ (k:=k+1) (by omega) (yU ok b2 a2) (yU ok a2 hs) (by rw[zGd h hE hT (by omega) b2 a2,zGd h hE hT (by omega) a2 hs,zHJ h hE hT hk d2,zOF h hE hT hk h1 h2,zOF h hE hT hk (by omega) g2,zUe h hE hT hk h1 (by omega) g2];exact hc.c2 j h1 h2 (j+1+i) (by omega) g2)
  have bo:=hg.len;refine⟨(L1++[r],((j+1+i+1:Nat):Int)),?_,rfl,(hg.app (GR.one r2 r3)).to (by omega) ?_⟩
  ·unfold zPG
   dsimp only
   rw[aG (by omega),zJ,a1,bs,b1,bs,d1,bs,hI _ d2,bs,zD (by omega) (by omega),bs,cs,hA _ _ b2 a2,bs,bs,hA _ _ a2 hs,bs,r1,bs,zX (by simp;omega),bs,zD (by omega) (by omega),bs,cs]
  ·constructor
   ·rintro⟨⟨g1,g3⟩,g4⟩
    refine⟨g1,fun j2 e1 e2=>?_⟩;rcases K2 j2 (j+1+i)with e|e
    ·grind
    ·obtain rfl:j2=j+1+i:=by omega
     exact g4
   ·rintro⟨g1,g3⟩
    exact⟨by grind,g3 (j+1+i) (by omega) (by omega)⟩
 ·obtain⟨L1,s2⟩:=s
  dsimp only at hs hg;subst hs;refine⟨L1,?_,hg.to (Ji _) ?_⟩
  ·unfold zPG
   grind
  grind
theorem zXm:∃L',zC (zRG ⟨x,m0,T⟩ (k:Int)) ([],((k+1:Nat):Int))=aB L'∧GR m.Prime D Z L' 100 (∀j,k+1≤j→j<x.zA.length→c1Q Q (exx D x m T) k j∧ ∀j2,j+1≤j2→j2<x.zA.length→c2Q Q (exx D x m T) k j j2):=by
 have hn:=hE.hn;refine uS (fun i(s:Mx×Int)=>s.2=((k+1+i:Nat):Int)∧GR m.Prime D Z s.1 (7*i) (∀j,k+1≤j→j<k+1+i→c1Q Q (exx D x m T) k j∧ ∀j2,j+1≤j2→j2<x.zA.length→c2Q Q (exx D x m T) k j j2)) (x.zA.length-(k+1)) (fun i s hi ⟨hs,hg⟩=>?_) (fun s ⟨hs,hg⟩=>?_) ⟨rfl,(GR.nil (N:=0)).to (by omega) (by grind)⟩
 ·left
  obtain⟨L1,s2⟩:=s;dsimp only at hs hg;subst hs;have g2:k+1+i<x.zA.length:=by omega
  obtain⟨L2,e2,hg2⟩:=zXk h hE hT hM hZ hk hc (j:=k+1+i) (by omega) g2 (L0:=L1) hg (by omega) (f:=fun v12=>(rng (((k+1+i:Nat):Int)+1)).bind fun v13=>
   (zC (zPG ⟨x,m0,T⟩ (k:Int) (L1,((k+1+i:Nat):Int))) (v12,v13)).bind fun r25=>
   (rng (((k+1+i:Nat):Int)+1)).bind fun v26=>aB (.inl (r25,v26)))
  obtain⟨L3,e3,hg3⟩:=zXl h hE hT hM hZ hk hc (j:=k+1+i) (by omega) g2 (L0:=L1) hg2 (by omega);refine⟨(L3,((k+1+i+1:Nat):Int)),?_,rfl,hg3.to (by omega) ?_⟩
  ·unfold zRG
   dsimp only
   rw[aG (by omega),zJ,e2,zD (by omega) (by omega),bs,cs,e3,bs,bs]
  grind
 ·obtain⟨L1,s2⟩:=s
  dsimp only at hs hg;subst hs;refine⟨L1,?_,hg.to (by omega) ?_⟩
  ·unfold zRG
   grind
  grind
theorem zOG{j:Nat}(h1:k+1≤j)(h2:j<x.zA.length):∃r,zK5 ⟨x,m0,T⟩=aB r∧ixO r.x (j:Int)=aB 0∧r.x.set j 1=(prE x (k+1) (xL (x.zA.length-(k+1)) (j-(k+1))++zeros D)).x∧r.v=(prE x (k+1) (xL (x.zA.length-(k+1)) (j-(k+1))++zeros D)).v:=by
 have _:=hM;have _:=hZ;have _:=hc;have hn:=hE.hn;have fQ:(xL (x.zA.length-(k+1)) (j-(k+1))).length=x.zA.length-(k+1):=by rw[kN,yT]
 refine⟨_,zHI h hE hT (k:=k+1) (by omega) (by omega),?_,?_,?_⟩
 ·rw[zAL h hE hT (by omega),sE (zM _)]
  dsimp only
  simp only[fv,zeros,J9];rw[tI,Ka,if_pos (by omega)]
 ·rw[zAL h hE hT (by omega),sE (zM _),sE fQ]
  dsimp only
  have e1:fv (k+1) (zeros (x.zA.length-(k+1)))=zeros j++0::zeros (x.zA.length-(k+1)-(j-(k+1)+1)):=by
   simp only[fv,zeros];rw[←Kv,J9,J9]
   grind
  rw[e1,zCD,fv,zAh (by omega),←Je]
  grind[zeros,J9]
 grind[zAL,sE,zM]
theorem zXn{L:Mx}{N:Nat}{C:Prop}(hL:GR m.Prime D Z L N C)(hN:N≤1000):∃L',zC (zPH ⟨x,m0,T⟩ (k:Int) (prE x (k+1) (((exx D x m T).zF.getD k []).drop (k+1)))) (L,((k+1:Nat):Int))=aB L'∧GR m.Prime D Z L' (N+(x.zA.length-(k+1))) (C∧ ∀j,k+1≤j→j<x.zA.length→c4Q Q (exx D x m T) k j):=by
 have hn:=hE.hn;have hpk:=(h.os.2 k hk).pos;have h7:=hE.m.p.pos;have ok:=zAb h hE hT (k:=k+1) (by omega);have hA:=zGc h hE hT hM (k:=k+1) (by omega);have hI:=zAE h hE hT hM hk;obtain⟨p1,p2⟩:=zHH (m0:=m0) h hE hT (k:=k) (j:=k) (Ji k) hk;change V (suf (exx D x m T) (k+1)) (lvl (exx D x m T) k).w at p2;change∃L',zC (zPH ⟨x,m0,T⟩ (k:Int) (prE x (k+1) (lvl (exx D x m T) k).w)) (L,((k+1:Nat):Int))=aB L'∧_;have htw:(lvl (exx D x m T) k).w.take (x.zA.length-(k+1))=(lvl x k).w:=zKp h hE hT hk (Ji k) hk;have ho:(lvl (exx D x m T) k).o=at0 x.zA k:=zD2 h hE hT hk;refine uS (fun i(s:Mx×Int)=>s.2=((k+1+i:Nat):Int)∧GR m.Prime D Z s.1 (N+i) (C∧ ∀j,k+1≤j→j<k+1+i→c4Q Q (exx D x m T) k j)) (x.zA.length-(k+1)) (fun i s hi ⟨hs,hg⟩=>?_) (fun s ⟨hs,hg⟩=>?_) ⟨rfl,hL.to (by omega) (by grind)⟩
 ·left
  obtain⟨L1,s2⟩:=s;dsimp only at hs hg;subst hs;have g2:k+1+i<x.zA.length:=by omega
  obtain⟨r33,z1,z2,z3,z4⟩:=zOG h hE hT hM hZ hk hc (j:=k+1+i) (by omega) g2;have hue:=zUf h hE hT hk (j:=k+1+i) (by omega) g2;have hux:V (suf x (k+1)) (xL (x.zA.length-(k+1)) (k+1+i-(k+1))):=by
   have:=zBP (h.okAt (k:=k+1) (by omega)) (j:=k+1+i-(k+1)) (by grind[yM])
   grind[yM]
  have fQ:=tW h (by omega) hux;have pN:V (suf (exx D x m T) (k+1)) (xL (x.zA.length-(k+1)) (k+1+i-(k+1))++zeros D):=(zBZ h hE hT (x.zA.length-(k+1)) (k+1) (by omega) _).2 ⟨_,_,rfl,hux,tY (by omega)⟩;have eg:V (suf (exx D x m T) (k+1)) (iter (at0 x.zA k).toNat (sig (suf (exx D x m T) (k+1)) (lvl (exx D x m T) k)) (xL (x.zA.length-(k+1)) (k+1+i-(k+1))++zeros D)):=wO (fun w hw=>zEl h hE hT hk hw) _ pN;have tu:zC (zRH ⟨x,m0,T⟩ (k:Int)) ((prE x (k+1) (xL (x.zA.length-(k+1)) (k+1+i-(k+1))++zeros D)).x,(prE x (k+1) (xL (x.zA.length-(k+1)) (k+1+i-(k+1))++zeros D)).v,0)=aB ((prE x (k+1) (iter (at0 x.zA k).toNat (sig (suf (exx D x m T) (k+1)) (lvl (exx D x m T) k)) (xL (x.zA.length-(k+1)) (k+1+i-(k+1))++zeros D))).x,(prE x (k+1) (iter (at0 x.zA k).toNat (sig (suf (exx D x m T) (k+1)) (lvl (exx D x m T) k)) (xL (x.zA.length-(k+1)) (k+1+i-(k+1))++zeros D))).v):=
   zBx (S:=V (suf (exx D x m T) (k+1))) (fun w=>(prE x (k+1) w).x) (fun w=>(prE x (k+1) w).v) (sig (suf (exx D x m T) (k+1)) (lvl (exx D x m T) k)) (at0 x.zA k) (by omega) (fun w hw=>zEl h hE hT hk hw) (fun w q hw hq=>by
    unfold zRH;dsimp only
    rw[yK hk,bs,aG hq,zJ,show(zL.mk (prE x (k+1) w).x (prE x (k+1) w).v)=prE x (k+1) w from rfl,hI w hw,bs,zD (by omega) (by omega),bs,cs]) (fun w hw=>by
    simp_all[zRH,yK]) pN
  obtain⟨r,r1,r2,r3⟩:=zHK h hE hT hM hZ (k:=k+1) (by omega) (yU ok p2 eg) (yU ok pN p2) (by rw[zGd h hE hT (by omega) p2 eg,zGd h hE hT (by omega) pN p2,zLN h hE hT hk _ pN,htw,Jp fQ];exact hc.c4 (k+1+i) (by omega) g2)
  have bo:=hg.len;refine⟨(L1++[r],((k+1+i+1:Nat):Int)),?_,rfl,(hg.app (GR.one r2 r3)).to (by omega) ?_⟩
  ·unfold zPH
   dsimp only
   rw[aG (by omega),zJ,z1,bs,z2,bs,Jj,z3,z4,tu,bs,zD (by omega) (by omega),bs,cs];dsimp only
   have e1:=hA _ _ p2 eg;have e2:=hA _ _ pN p2;rw[show∀w,(zL.mk (prE x (k+1) w).x (prE x (k+1) w).v)=prE x (k+1) w from fun _=>rfl,show∀w,(zL.mk (prE x (k+1) w).x (prE x (k+1) w).v)=prE x (k+1) w from fun _=>rfl,e1,bs,bs,e2,bs,r1,bs,zX (by simp;omega),bs,zD (by omega) (by omega),bs,cs]
  ·have e4:c4Q Q (exx D x m T) k (k+1+i)↔Q (k+1) (mul (suf (exx D x m T) (k+1)) (lvl (exx D x m T) k).w (iter (at0 x.zA k).toNat (sig (suf (exx D x m T) (k+1)) (lvl (exx D x m T) k)) (xL (x.zA.length-(k+1)) (k+1+i-(k+1))++zeros D))) (mul (suf (exx D x m T) (k+1)) (xL (x.zA.length-(k+1)) (k+1+i-(k+1))++zeros D) (lvl (exx D x m T) k).w):=by
    grind[c4Q]
   rw[←e4];constructor
   ·grind
   grind
 ·obtain⟨L1,s2⟩:=s
  dsimp only at hs hg;subst hs;refine⟨L1,?_,hg.to (Ji _) ?_⟩
  ·unfold zPH
   grind
  grind
theorem zUg:∃L,f_p ⟨x,m0,T⟩ (k:Int)=aB L∧GR m.Prime D Z L 120 (LCQ Q x (exx D x m T) k):=by
 have hn:=hE.hn;have hI:=zAE h hE hT hM hk;obtain⟨p1,p2⟩:=zHH h hE hT (k:=k) (j:=k) (Ji k) hk;obtain⟨L1,e1,g1⟩:=zXm h hE hT hM hZ hk hc;have hs:=zEl h hE hT hk p2;obtain⟨r,r1,r2,r3⟩:=zHK h hE hT hM hZ (k:=k+1) (by omega) hs p2 (by rw[zHJ h hE hT hk p2,zKp h hE hT hk (Ji k) hk];exact hc.c3)
 obtain⟨L2,e2,g2⟩:=zXn h hE hT hM hZ hk hc (g1.app (GR.one r2 r3)) (by omega);have bo:=g1.len;refine⟨L2,?_,g2.to (by omega) ?_⟩
 ·unfold f_p
  rw[zD (by omega) (by omega),bs,cs,e1,bs,p1,bs,hI _ p2,bs,r1,bs,zX (by simp;omega),bs,bs,e2,bs]
 ·constructor
  ·rintro⟨⟨a1,a2⟩,a3⟩
   exact⟨by grind,by grind,a2,a3⟩
  ·intro a
   exact⟨⟨fun j b1 b2=>⟨a.c1 j b1 b2,fun j2 b3 b4=>a.c2 j b1 b2 j2 b3 b4⟩,a.c3⟩,a.c4⟩
end
theorem zUh(hx:xX (suf x 0)):∃L,zU3 ⟨x,m0,T⟩=aB L∧GR m.Prime D Z L 1000 (∀k,k<x.zA.length→LCQ Q x (exx D x m T) k):=by
 have hn:=hE.hn;have h3:=hE.m.d3;have bp:∀k,k<x.zA.length→LC x k:=fun k hk=>((kK h.w hk).1 (zBe hx k)).2
 obtain⟨L,e,g⟩:=uS (body:=zMc ⟨x,m0,T⟩) (Q:=fun L=>GR m.Prime D Z L 1000 (∀k,k<x.zA.length→LCQ Q x (exx D x m T) k)) (fun i(s:Mx×Int)=>s.2=(i:Int)∧GR m.Prime D Z s.1 (120*i) (∀k,k<i→LCQ Q x (exx D x m T) k)) x.zA.length (fun i s hi ⟨hs,hg⟩=>by
  left;obtain⟨L1,s2⟩:=s;dsimp only at hs hg;subst hs;obtain⟨L2,e2,g2⟩:=zUg h hE hT hM hZ hi (bp i hi);have l1:=hg.len;have l2:=g2.len;refine⟨(L1++L2,((i+1:Nat):Int)),?_,rfl,(hg.app g2).to (by omega) ?_⟩
  ·unfold zMc
   dsimp only
   rw[yS hi,zJ,e2,bs,zX (by omega),bs,zD (by omega) (by omega),bs,cs]
  grind) (fun s ⟨hs,hg⟩=>by
  obtain⟨L1,s2⟩:=s;dsimp only at hs hg;subst hs;refine⟨L1,?_,hg.to (by omega) Iff.rfl⟩
  simp_all[zMc]) (s:=([],0)) ⟨rfl,(GR.nil (N:=0)).to (by omega) (by simp)⟩
 grind[zU3]
end
section
variable {D:Nat}{x:SPr}{m0 m:zG}{T:Mx} (h:Pres x) (hE:ExB x.zA.length D x m T) (hT:∀i,i<T.length→Row m.Prime D (T.getD i [])) (hM:Mv D x.zA.length m0 m)
 include h hE hT hM
theorem zHL(hx:xX (suf x 0))(hr:zCY x m D):IsB (zPI x m0 T) (xX (suf (exx D x m T) 0)):=by
 have hn:=hE.hn;have h3:=hE.m.d3;have hp:=hE.m.p.pos;obtain⟨L,e,g⟩:=zUh h hE hT hM (Z:=fun r=>r=zeros D) (Q:=fun _ a b=>a=b) (fun k hk a b ha hb e=>by
  obtain⟨y,u,rfl,hy,hu,_,ff⟩:=prV h hE hT hk ha;obtain⟨z,v,rfl,hz,hv,_,cf⟩:=prV h hE hT hk hb;rw[Jp ff,Jp cf]at e;subst e;rw[K9 ff,K9 ff,List.append_cancel_left_eq,←zMA (p:=m.Prime) hu hv];constructor
  ·grind[sS]
  ·intro g
   rw[tC (zOx (p:=m.Prime) (r:=u) (s:=v) (k:=-1)),show zeros D=mkv D fun _=>0 from kL D]
   grind[yO]) hx
 have bo:=g.len;unfold zPI;rw[e,bs];refine(tP (body:=zMd L) L.length (fun i=> ∀j,j<(L.getD i []).length→at0 (L.getD i []) j=0) rfl (fun i hi _=>?_) ?_).iff ?_
 ·have fp:=g.row (L.getD i []) (by grind)
  unfold zMd;rw[yS hi,zJ,zT [] hi,bs];rcases zHa (v:=L.getD i []) (by rw[fp.1];omega)with⟨z1,z2⟩|⟨z1,z2⟩
  ·left
   rw[z1,bs,J6,zK,zD (by omega) (by omega),bs,cs]
   grind
  grind
 ·simp_all[zMd]
 ·rw[zRf h hE hT hr,show(∀k,k<x.zA.length→LCn x (exx D x m T) k)↔(∀k,k<x.zA.length→LCQ (fun _ a b=>a=b) x (exx D x m T) k)from⟨fun a k hk=>⟨(a k hk).c1,(a k hk).c2,(a k hk).c3,(a k hk).c4⟩,fun a k hk=>⟨(a k hk).c1,(a k hk).c2,(a k hk).c3,(a k hk).c4⟩⟩,←g.iff]
  constructor
  ·intro a r hr
   obtain⟨i,hi,rfl⟩:=Jv.1 hr;have a:=a i hi;rw[J2,J5 hi]at a;have fp:=g.row _ hr;rw[tC fp.1,show zeros D=mkv D fun _=>0 from kL D]
   grind
  grind[Kt,sS]
end
end Go.Pl

namespace Go.Pl
open Go Go.Ab Go.Wk Go.Pc
theorem zC4{x:SPr}(h:Pres x):∃s:Nat,f_U x=aB (s:Int)∧(s=0↔xX (suf x 0)):=by
 have h6:=h.os.1;unfold f_U;obtain⟨r,r1,r2⟩:=uS (body:=zJv x) (Q:=fun r=> ∃s:Nat,r=(s:Int)∧xX (suf x s)∧(s=0∨ ¬xX (suf x (s-1)))) (fun i s=>i≤x.zA.length∧s=((x.zA.length-i:Nat):Int)∧xX (suf x (x.zA.length-i))) x.zA.length (fun i s hi ⟨_,hs,gK⟩=>by
   subst hs;have hk:x.zA.length-i-1<x.zA.length:=by omega
   have e9:x.zA.length-(i+1)=x.zA.length-i-1:=by omega
   rw[e9];have e8:i+1≤x.zA.length:=by omega
   rw[show x.zA.length-i=x.zA.length-i-1+1 from by omega]at gK ⊢
   have fH:=zFI h hk gK;have pq:=kK h.w hk
   generalize x.zA.length-i-1=k at*
   unfold zJv;rw[aG (by omega),zJ,zD (by omega) (by omega),bs,show(((k+1:Nat):Int)-1)=(k:Int)from by omega];rcases fH with⟨g1,g2⟩|⟨r,g1,g2,g3⟩
   ·simp_all
   grind) (fun s ⟨_,hs,gK⟩=>by
   rw[Ks]at hs gK;subst hs;unfold zJv
   grind) (s:=(x.zA.length:Int)) ⟨by omega,by rfl,by rw[Qk,vN (by omega)];simp only[xX]⟩
 obtain⟨s,rfl,gK,hs⟩:=r2;rw[r1,bs];refine⟨s,rfl,by grind,fun g=>?_⟩
 grind[zBe]
section
variable {x:SPr}{m:zG}{T:Mx}{D:Nat} (hx:sW x) (hm:MOk x.zA.length m D) (hT:T.length≤1048576)
 include hx hm hT
def sZ(x:SPr)(m:zG)(D:Nat)(T:Mx):Prop:=T.length=base x.zA.length x.zA.length∧zWo m D T
theorem kO:IsB (zPD x m T) (sZ x m D T):=by
 have h6:=hx.n6;unfold zPD;rw[zKi rfl h6,bs]
 by_cases g:T.length=base x.zA.length x.zA.length
 ·rw[show((T.length:Int)==((base x.zA.length x.zA.length:Nat):Int))=aD from by simp[g],zJ]
  exact(IsB.b (zHC hm (by omega) hT)).iff ⟨fun q=>⟨g,q⟩,fun q=>q.2⟩
 ·rw[show((T.length:Int)==((base x.zA.length x.zA.length:Nat):Int))=aE from by simp;omega,zK]
  exact .inr ⟨rfl,fun q=>g q.1⟩
theorem zE7:IsB (zPJ x m T) (sZ x m D T):=by
 have h6:=hx.n6;have h3:=hm.d3;unfold zPJ;rw[zKj rfl h6,bs]
 by_cases g:T.length=base x.zA.length x.zA.length
 ·rw[show((T.length:Int)==((base x.zA.length x.zA.length:Nat):Int))=aD from by simp[g],zJ]
  exact(IsB.b (zMB hm.p hm.d (by omega) hT)).iff ⟨fun q=>⟨g,q⟩,fun q=>q.2⟩
 ·rw[show((T.length:Int)==((base x.zA.length x.zA.length:Nat):Int))=aE from by simp;omega,zK]
  exact .inr ⟨rfl,fun q=>g q.1⟩
 omit hT in
theorem zOH(ht:sZ x m D T):zFT x.zA.length D x m T:=by
  have h3:=hm.d3;exact zFT.of hx hm ht.1 (zKh fun i hi=>by have:=(ht.2 i hi).1;omega)
 omit hT in
theorem zLO(ht:sZ x m D T):IsB (zPK x m T) (xX (suf (exx D x m T) 0)):=by
  have hE:=zOH hx hm ht;unfold zPK;rw[zJd hE,bs];obtain⟨s,s1,s2⟩:=zC4 ((zD1 hx.toPres (hE.b hm) ht.2).p (by rw[wU hx.toPres (hE.b hm) ht.2];have:=hm.d3;have:=hE.hn;omega))
  grind[IsB.of_bool]
end
end Go.Pl

namespace Go.Pl
open Go Go.Ab Go.Wk Go.Pc
def Coc(x:SPr)(m:zG)(D:Nat)(T:Mx):Prop:=sZ x m D T∧xX (suf (exx D x m T) 0)
section
variable {x:SPr}{m:zG}{A B:Mx}{L:List Mx}
theorem zME(hx:zSL x)(hm:zTR m)(hA:A.length≤1048576)(hB:B.length≤1048576)(hl:L.length≤1000)(hL:∀t,t∈L↔t=A∨t=B):∃c:Int,zPL x m A B=aB c∧f_P x m L=aB c∧(c=0→sJ x∧ ∃D,MOk x.zA.length m D∧zCY x m D∧Coc x m D A∧Coc x m D B):=by
 have be:x.zA.length≤1048576:=hx.1;have bn:=S3.len hm;unfold zPL f_P;rcases(zCF (m:=m) be).both (zCG (m:=m) be bn)with⟨s1,i1,hM⟩|⟨s1,i1,hM⟩
 ·obtain⟨hc,D,hD,hr⟩:=hM
  have gw:∀i,i<L.length→L.getD i []=A∨L.getD i []=B:=by grind[Kt]
  have gc:∀i,i<L.length→(L.getD i []).length≤1048576:=by grind
  have eH:∀(P:Mx→Prop),(∀i,0≤i→i<L.length→P (L.getD i []))↔P A∧P B:=fun P=>by
   constructor
   ·intro g
    have key:∀t,t∈L→P t:=fun t ht=>by
     obtain⟨i,hi,rfl⟩:=Jv.1 ht
     grind
    grind
   grind
  have fN:∀i:Nat,i<L.length→((i:Nat):Int)<(L.length:Int):=fun i hi=>by omega
  simp only[s1,i1,bs,J6,zK];have c1:=chk (body:=zPM x m L) L.length 0 (Kc _) (fun i=>sZ x m D (L.getD i [])) (fun _=>(1:Int)) (fun i _ hi _=>by
   unfold zPM;rw[yS hi,zJ,zT [] hi,bs];rcases zE7 hc.2.2 hD (gc i hi)with⟨z1,z2⟩|⟨z1,z2⟩
   ·left
    rw[z1,bs,J6,zK,zD (by omega) (by omega),bs,cs]
    grind
   grind) (by
   unfold zPM;simp)
  rw[show((0:Nat):Int)=0 from rfl]at c1;have hAB:(∀i,0≤i→i<L.length→sZ x m D (L.getD i []))↔_:=eH (sZ x m D);rcases c1 with⟨c1,c2⟩|⟨i,_,hi,c1,c2⟩
  ·obtain⟨tA,tB⟩:=hAB.1 c2
   rw[c1,bs];simp only
   rcases kO hc.2.2 hD hA with⟨z1,_⟩|⟨_,z2⟩
   rcases kO hc.2.2 hD hB with⟨y1,_⟩|⟨_,y2⟩
   ·simp only[z1,y1,bs,J6,zK]
    have c3:=chk (body:=zPN x m L) L.length 0 (Kc _) (fun i=>xX (suf (exx D x m (L.getD i [])) 0)) (fun _=>(5:Int)) (fun i _ hi _=>by
     unfold zPN;rw[yS hi,zJ,zT [] hi,bs];rcases zLO hc.2.2 hD (c2 i (Kc _) hi)with⟨z1,z2⟩|⟨z1,z2⟩
     ·left
      rw[z1,bs,J6,zK,zD (by omega) (by omega),bs,cs]
      grind
     grind) (by
     unfold zPN;simp)
    rw[show((0:Nat):Int)=0 from rfl]at c3;have hCC:(∀i,0≤i→i<L.length→xX (suf (exx D x m (L.getD i [])) 0))↔_:=eH (fun t=>xX (suf (exx D x m t) 0));have sA:=zHL hc.1 ((zOH hc.2.2 hD tA).b hD) tA.2 (Mv.self hD) hc.2.1 hr;have sB:=zHL hc.1 ((zOH hc.2.2 hD tB).b hD) tB.2 (Mv.self hD) hc.2.1 hr;rcases c3 with⟨c3,c4⟩|⟨i,_,hi,c3,c4⟩
    ·obtain⟨kA,kB⟩:=hCC.1 c4
     rcases sA with⟨z3,_⟩|⟨_,z3⟩
     rcases sB with⟨y3,_⟩|⟨_,y3⟩
     ·rw[z3,bs,J6,zK,y3,bs,J6,zK,c3,bs]
      exact⟨0,rfl,rfl,fun _=>⟨hc,D,hD,hr,⟨tA,kA⟩,tB,kB⟩⟩
     all_goals grind
    ·rw[c3,bs]
     refine⟨5,?_,rfl,by simp⟩;rcases sA with⟨z3,z4⟩|⟨z3,z4⟩
     ·rcases sB with⟨y3,y4⟩|⟨y3,y4⟩
      all_goals grind
     grind
   all_goals grind
  ·rw[c1,bs]
   refine⟨1,?_,rfl,by simp⟩;rcases kO hc.2.2 hD hA with⟨z1,z2⟩|⟨z1,z2⟩
   ·rcases kO hc.2.2 hD hB with⟨y1,y2⟩|⟨y1,y2⟩
    all_goals grind
   grind
 simp_all
end
end Go.Pl

namespace Go.Pl
open Go Go.Ab Go.Wk Go.Pc
end Go.Pl

namespace Go.Pl
open Go Go.Ab Go.Wk Go.Pc
end Go.Pl

namespace Go.Pl
open Go Go.Ab Go.Wk Go.Pc
end Go.Pl

namespace Go.Pl
open Go Go.Ab Go.Wk Go.Pc
end Go.Pl

namespace Go.Pl
open Go Go.Ab Go.Wk Go.Pc
section
variable (x:SPr)
abbrev lcj(i j:Nat):List Int:=(x.zB.getD i []).getD (j-(i+1)) []
end
end Go.Pl

namespace Go.Pl
open Go Go.Ab Go.Wk Go.Pc
theorem zMF(n d:Nat):zeros (n+d)=zeros n++zeros d:=by grind[zeros,J9]
theorem zOI{n d j:Nat}(hj:j<n):xL (n+d) j=xL n j++zeros d:=by grind[xL,zMF,zM]
section
variable {D:Nat}{x:SPr}{m:zG}{T:Mx} (h:Pres x) (hE:ExB x.zA.length D x m T) (hT:∀i,i<T.length→Row m.Prime D (T.getD i []))
 include h hE hT
variable {k:Nat} (hk:k<x.zA.length) (hc:xX (suf (exx D x m T) (k+1)))
 include hk hc
 omit hc in
theorem zOJ{e:Vec}(he:V (suf (exx D x m T) (k+1)) e):V (suf (exx D x m T) (k+1)) (sig (suf (exx D x m T) (k+1)) (lvl (exx D x m T) k) e):=by
  have gE:=zAb h hE hT (k:=k) (by omega);rw[zZ (x:=exx D x m T) (by grind[wU])]at gE
  grind[zBQ]
end
end Go.Pl

namespace Go.Pl
open Go Go.Ab Go.Wk Go.Pc
section
variable {x:SPr} (h:Pres x)
 include h
theorem zOK{v:List Int}{i:Nat}(hv:Exp x.zA v i)(hi:i<x.zA.length):nw 0 v=nw (i+1) (v.drop (i+1))∧ ∀a∈nw 0 v,i+1≤a∧a<x.zA.length:=by
 have _:=h;have e:=zAl hv hi;have e1:nw 0 v=nw (i+1) (v.drop (i+1)):=by rw[e,zCp,zFW,zM,Js,J7,K9 (by rw[zM])]
 refine⟨e1,fun a ha=>?_⟩;rw[e1]at ha;refine⟨?_,zLB (n:=x.zA.length) (i+1) _ (by rw[Kj,hv.1.1];omega) a ha⟩
 clear e e1 hv
 generalize v.drop (i+1)=y at ha
 generalize i+1=o at ha ⊢
 clear hi
 induction y generalizing o with
 |nil=>grind[nw]
 |cons b y ih=>
  grind[nw]
theorem zOL{i j:Nat}(hi:i<j)(hj:j<x.zA.length):Exp x.zA (lcj x i j) i:=by have g:=(h.tl i (by omega)).2.1;exact(h.tl i (by omega)).2.2 (j-(i+1)) (by omega)
theorem zLP{i:Nat}(hi:i<x.zA.length):Exp x.zA (x.zF.getD i []) i:=(h.tl i hi).1
end
end Go.Pl

namespace Go.Pl
open Go Go.Ab Go.Wk Go.Pc
end Go.Pl

namespace Go.Pl
open Go Go.Ab Go.Wk Go.Pc
end Go.Pl

namespace Go.Pl
open Go Go.Ab Go.Wk Go.Pc
end Go.Pl

namespace Go.Pl
open Go Go.Ab Go.Wk Go.Pc
end Go.Pl

namespace Go.Pl
open Go Go.Ab Go.Wk Go.Pc
end Go.Pl

namespace Go.Pl
open Go Go.Ab Go.Wk Go.Pc
end Go.Pl

namespace Go.Pl
open Go Go.Ab Go.Wk Go.Pc
end Go.Pl

namespace Go.Pl
open Go Go.Ab Go.Wk Go.Pc
end Go.Pl

namespace Go.Pl
open Go Go.Ab Go.Wk Go.Pc
end Go.Pl

namespace Go.Pl
open Go Go.Ab Go.Wk Go.Pc
end Go.Pl

namespace Go.Pl
open Go Go.Ab Go.Wk Go.Pc
end Go.Pl

namespace Go.Pl
open Go Go.Ab Go.Wk Go.Pc
end Go.Pl

namespace Go.Pl
open Go Go.Ab Go.Wk Go.Pc
end Go.Pl

namespace Go.Pl
open Go Go.Ab Go.Wk Go.Pc
end Go.Pl

namespace Go.Pl
open Go Go.Ab Go.Wk Go.Pc
end Go.Pl

namespace Go.Pl
open Go Go.Ab Go.Wk Go.Pc
end Go.Pl

namespace Go.Pl
open Go Go.Ab Go.Wk Go.Pc
end Go.Pl

namespace Go.Pl
open Go Go.Ab Go.Wk Go.Pc
end Go.Pl

namespace Go.Pl
open Go Go.Ab Go.Wk Go.Pc
end Go.Pl

namespace Go.Pl
open Go Go.Ab Go.Wk Go.Pc
end Go.Pl

namespace Go.Pl
open Go Go.Ab Go.Wk Go.Pc
end Go.Pl

namespace Go.Pl
open Go Go.Ab Go.Wk Go.Pc
end Go.Pl

namespace Go.Pl
open Go Go.Ab Go.Wk Go.Pc
end Go.Pl

namespace Go.Pl
open Go Go.Ab Go.Wk Go.Pc
end Go.Pl

namespace Go.Pl
open Go Go.Ab Go.Wk Go.Pc
end Go.Pl

namespace Go.Pl
open Go Go.Ab Go.Wk Go.Pc
end Go.Pl

namespace Go.Pl
open Go Go.Ab Go.Wk Go.Pc
end Go.Pl

namespace Go.Pl
open Go Go.Ab Go.Wk Go.Pc
end Go.Pl

namespace Go.Pl
open Go Go.Ab Go.Wk Go.Pc
end Go.Pl

namespace Go.Pl
open Go Go.Ab Go.Wk Go.Pc
end Go.Pl

namespace Go.Pl
open Go Go.Ab Go.Wk Go.Pc
end Go.Pl

namespace Go.Pl
open Go Go.Ab Go.Wk Go.Pc
end Go.Pl

namespace Go.Pl
open Go Go.Ab Go.Wk Go.Pc
theorem zGe{x:SPr}(hx:sW x){body:Int×Int→Option ((Int×Int)⊕Int)}
  (hb:∀s:Int×Int,body s=cond (decide (s.2<(x.zA.length:Int))) ((ixO x.zA s.2).bind fun v1=>(rng (s.1*v1)).bind fun v2=>(rng (s.2+1)).bind fun v3=>aB (.inl (v2,v3))) (aB (.inr s.1))):zC body (1,0)=aB (pr x.zA x.zA.length):=by
 have h6:=hx.n6;have hP:∀j,j<x.zA.length→Prime (at0 x.zA j):=fun j hj=>hx.os.2 j hj
 exact zP (body:=body) (r:=pr x.zA x.zA.length) (fun i=>(pr x.zA i,(i:Int))) x.zA.length (fun i hi=>by
  have e1:=zH7 hP (x.zA.length-(i+1)) (by omega);rw[show x.zA.length-(x.zA.length-(i+1))=i+1 from by omega]at e1;have e2:=zBp (os:=x.zA) (i:=i+1) (by grind);have e3:=hx.pr;simp only[pr]at e1 e2;rw[hb];simp only
  rw[yS hi,zJ,yK hi,bs,zD (n:=pr x.zA i*at0 x.zA i) (by omega) (by omega),bs,zD (by omega) (by omega),bs];rfl) (by
  grind)
end Go.Pl

namespace Go.Pl
open Go Go.Ab Go.Wk Go.Pc
end Go.Pl

namespace Go.Pl
open Go Go.Ab Go.Wk Go.Pc
end Go.Pl

namespace Go.Pl
open Go Go.Ab Go.Wk Go.Pc
end Go.Pl

namespace Go.Pl
open Go Go.Ab Go.Wk Go.Pc
end Go.Pl

namespace Go.Pl
open Go Go.Ab Go.Wk Go.Pc
end Go.Pl

namespace Go.Pl
open Go Go.Ab Go.Wk Go.Pc
end Go.Pl

namespace Go.Pl
open Go Go.Ab Go.Wk Go.Pc
end Go.Pl

namespace Go.Pl
open Go Go.Ab Go.Wk Go.Pc
end Go.Pl

namespace Go.Pl
open Go Go.Ab Go.Wk Go.Pc
end Go.Pl

namespace Go.Pl
open Go Go.Ab Go.Wk Go.Pc
end Go.Pl

namespace Go.Pl
open Go Go.Ab Go.Wk Go.Pc
end Go.Pl

namespace Go.Pl
open Go Go.Ab Go.Wk Go.Pc
end Go.Pl

namespace Go.Pl
open Go Go.Ab Go.Wk Go.Pc
end Go.Pl

namespace Go.Pl
open Go Go.Ab Go.Wk Go.Pc
end Go.Pl

namespace Go.Pl
open Go Go.Ab Go.Wk Go.Pc
end Go.Pl

namespace Go.Pl
open Go Go.Ab Go.Wk Go.Pc
end Go.Pl

namespace Go.Pl
open Go Go.Ab Go.Wk Go.Pc
theorem zGf{x:SPr}(h:Pres x){k:Int}(k0:0≤k)(k1:k≤1000000):∃e,zRM x k=aB e∧zRL x k=aB e∧V (suf x 0) e:=by
 have h9:=h.os.1;have hP:=h.os.2;obtain⟨e,e1,e2,e3⟩:=zCW (body:=zMe x) (Q:=fun e=>e.length=x.zA.length∧ ∀j,j<x.zA.length→0≤at0 e j∧at0 e j≤at0 x.zA j-1)
  (fun s=> ∃(q:Int)(e:Vec)(i:Nat),s=(q,e,(i:Int)-1)∧i≤x.zA.length∧0≤q∧q≤1000000∧e.length=x.zA.length∧ ∀j,j<x.zA.length→0≤at0 e j∧at0 e j≤at0 x.zA j-1)
  (fun s=>(s.2.2+1).toNat) (fun s hs=>by
   obtain⟨q,e,i,rfl,hi,q0,q1,he,hr⟩:=hs;unfold zMe;simp only
   cases i with
   |zero=>
    right;rw[show decide (((0:Nat):Int)-1≥0)=aE from rfl,zK];exact⟨_,rfl,he,hr⟩
   |succ i=>
    left;have hp:=(hP i (by omega)).pos;have t1:=Qb (at0 x.zA i) q0;have t2:=Gp q (b:=at0 x.zA i) (by omega);have t3:q.tdiv (at0 x.zA i)=q/at0 x.zA i:=Lg q0;have t4:0≤q/at0 x.zA i:=Int.ediv_nonneg q0 (by omega);have t5:q/at0 x.zA i≤q:=Int.ediv_le_self _ q0;rw[show(((i+1:Nat):Int)-1)=(i:Int)from by omega,show decide ((i:Int)≥0)=aD from aG (by omega),zJ,yK (by omega),bs,yV,if_neg (by omega),bs,zT 0 (by omega),bs,bs,xK,if_neg (by omega),t3,zD (by omega) (by omega),bs,zD (by omega) (by omega),bs,show((i:Nat):Int).toNat=i from rfl];refine⟨_,rfl,⟨_,_,i,rfl,by omega,t4,by omega,by rw[Lm];exact he,fun j hj=>?_⟩,by simp only;omega⟩
    by_cases hji:i=j
    ·subst hji
     rw[at0,J2,Qa (by omega)];simp only[La];omega
    ·have:=hr j hj
     rw[at0,J2,List.getElem?_set_ne hji,←J2];exact this) 1000 (k,J1 x.zA.length 0,(x.zA.length:Int)-1) (by simp only;omega)
   ⟨k,_,x.zA.length,rfl,Ji _,k0,k1,by simp,fun j hj=>by have:=(hP j hj).pos;rw[at0,J2,Ka,if_pos hj];simp only[La];omega⟩
 refine⟨e,?_,?_,zQR x.zA.length 0 e (by omega) e2 fun i hi=>by rw[J7];exact e3 i hi⟩
 ·unfold zRM
  rw[yX (by omega),bs,Ju,zD (by omega) (by omega),bs,e1,bs]
 ·unfold zRL zW2
  rw[yX (by omega),bs,bs,Ju,zD (by omega) (by omega),bs,show zSY x=zMe x from rfl,e1,bs]
noncomputable def elv (x:SPr) (k:Nat):Vec:=(zRL x (k:Int)).getD []
theorem zOM{x:SPr}(h:Pres x){k:Nat}(k1:k≤1000000):zRM x (k:Int)=aB (elv x k)∧zRL x (k:Int)=aB (elv x k)∧V (suf x 0) (elv x k):=by
 obtain⟨e,e1,e2,e3⟩:=zGf h (k:=(k:Int)) (by omega) (by omega);have:elv x k=e:=by rw[elv,e2];rfl
 rw[this];exact⟨e1,e2,e3⟩
noncomputable def els (x:SPr) (n:Nat):Mx:=(Jn n).map (elv x)
theorem zON{x:SPr}{n:Nat}:els x (n+1)=els x n++[elv x n]:=by simp[els,L8]
theorem zRh{x:SPr}{n:Nat}:(els x n).length=n:=by simp[els]
theorem zEm{x:SPr}(hx:sW x):∃N:Nat,pr x.zA x.zA.length=(N:Int)∧N≤729∧zRK x=aB (N:Int)∧zU4 x=aB (N:Int)∧zW3 x=aB (els x N):=by
 have h1:=zBp (os:=x.zA) (i:=x.zA.length) (fun j hj=>hx.os.2 j hj);have h2:=hx.pr;obtain⟨N,hN⟩:=Int.eq_ofNat_of_zero_le (a:=pr x.zA x.zA.length) (by omega);rw[hN]at h2;have o1:zRK x=aB (N:Int):=by unfold zRK;rw[zGe hx (body:=zSX x) (fun _=>rfl),bs,hN]
 have o2:zU4 x=aB (N:Int):=by unfold zU4;rw[zGe hx (body:=zSW x) (fun _=>rfl),bs,hN]
 refine⟨N,hN,by omega,o1,o2,?_⟩;have l:=zP (body:=zMf x (N:Int)) (r:=els x N) (fun i=>(els x i,(i:Int))) N (fun i hi=>by
  unfold zMf;rw[show decide ((i:Int)<(N:Int))=aD from aG (by omega),zJ,(zOM hx.toPres (by omega)).1,bs,zX (by rw[zRh,Jh];omega),bs,zD (by omega) (by omega),bs,zON];rfl) (by
  unfold zMf;rw[show decide ((N:Int)<(N:Int))=aE from aF (by omega),zK])
 unfold zW3;rw[o1,bs];rw[show els x 0=[]from rfl,show((0:Nat):Int)=0 from rfl]at l;rw[l,bs]
end Go.Pl

namespace Go.Pl
open Go Go.Ab Go.Wk Go.Pc
end Go.Pl

namespace Go.Pl
open Go Go.Ab Go.Wk Go.Pc
end Go.Pl

namespace Go.Pl
open Go Go.Ab Go.Wk Go.Pc
end Go.Pl

namespace Go.Pl
open Go Go.Ab Go.Wk Go.Pc
end Go.Pl

namespace Go.Pl
open Go Go.Ab Go.Wk Go.Pc
end Go.Pl

namespace Go.Pl
open Go Go.Ab Go.Wk Go.Pc
end Go.Pl

namespace Go.Pl
open Go Go.Ab Go.Wk Go.Pc
end Go.Pl

namespace Go.Pl
open Go Go.Ab Go.Wk Go.Pc
end Go.Pl

namespace Go.Pl
open Go Go.Ab Go.Wk Go.Pc
end Go.Pl

namespace Go.Pl
open Go Go.Ab Go.Wk Go.Pc
end Go.Pl

namespace Go.Pl
open Go Go.Ab Go.Wk Go.Pc
end Go.Pl

namespace Go.Pl
open Go Go.Ab Go.Wk Go.Pc
variable {x:SPr}{w:Pres x∧xX (suf x 0)}
end Go.Pl

namespace Go.Pl
open Go Go.Ab Go.Wk Go.Pc
variable {x:SPr}{w:Pres x∧xX (suf x 0)}
end Go.Pl

namespace Go.Pl
open Go Go.Ab Go.Wk Go.Pc
end Go.Pl

namespace Go.Pl
open Go Go.Ab Go.Wk Go.Pc
end Go.Pl

namespace Go.Pl
open Go Go.Ab Go.Wk Go.Pc
end Go.Pl

namespace Go.Pl
open Go Go.Ab Go.Wk Go.Pc
end Go.Pl

namespace Go.Pl
open Go Go.Ab Go.Wk Go.Pc
end Go.Pl

namespace Go.Pl
open Go Go.Ab Go.Wk Go.Pc
end Go.Pl

namespace Go.Pl
open Go Go.Ab Go.Wk Go.Pc
end Go.Pl

namespace Go.Pl
open Go Go.Ab Go.Wk Go.Pc
end Go.Pl

namespace Go.Pl
open Go Go.Ab
def Le{α:Type}(a b:Option α):Prop:=∀r,a=aB r→b=aB r
class LeC {α:Type} (a b:Option α):Prop where
 h:Le a b
theorem Le.rf{α:Type}{a:Option α}:Le a a:=fun _ h=>h
theorem Le.bd{α β:Type}{a b:Option α}{f g:α→Option β}(h:Le a b)(k:∀x,Le (f x) (g x)):Le (a.bind f) (b.bind g):=by
 intro r hr;cases ha:a with
 |none=>rw[ha]at hr;cases hr
 |some x=>rw[ha]at hr;rw[h x ha];exact k x r hr
theorem Le.cd{α:Type}{c:Bool}{a b a' b':Option α}(h:Le a b)(k:Le a' b'):Le (cond c a a') (cond c b b'):=by
 cases c
 ·exact k
 ·exact h
theorem Le.lp{σ ρ:Type}{e f:σ→Option (σ⊕ρ)}{n:Nat}{s:σ}(h:∀s,Le (e s) (f s)):Le (yN e n s) (zC f s):=by
 intro r hr;rw[zBj];refine⟨n,?_⟩
 induction n generalizing s with
 |zero=>cases hr
 |succ n ih=>
  simp only[yN]at hr ⊢
  cases he:e s with
  |none=>rw[he]at hr;cases hr
  |some x=>
   rw[he]at hr;rw[h s x he];cases x with
   |inl s'=>exact ih hr
   |inr r'=>exact hr
theorem leS{α:Type}{a b:Option α}(h:Le a b:=by
 repeat' first
  |with_reducible exact Le.rf
  |exact LeC.h
  |with_reducible refine Le.bd ?_ fun _=>?_
  |with_reducible refine Le.cd ?_ ?_
  |with_reducible refine Le.lp fun _=>?_
  |(rename_i x;cases x using Sum.casesOn<;>dsimp only)
  |fail):Le a b:=h
theorem Le.fu{α:Type}{g:Nat→Option α}{n:Nat}(h:∀n,Le (g n) (g (n+1))):Le (g n) (zB3 g):=fun r hr=>
 zAv n fun m hm=>by
  induction m with
  |zero=>rw[show 0=n from by omega];exact hr
  |succ m ih=>
   rcases Nat.eq_or_lt_of_le hm with e|e
   ·rw[←e];exact hr
   ·exact h m r (ih (by omega))
end Go.Pl

namespace Go.Wk
open Go Go.Ab Go.Pl
noncomputable def uH (x0:List Int):Option Int:=
 (yN (zML x0) 400 (1,0)).bind fun r5=>
 aB r5
noncomputable def vO (x0:List Int) (x1:List Int) (x2:Int):Option Bool:=
 cond ((x1.length:Int) != (x0.length:Int)) (
  aB aE) (
  (yN (zOX x0 x1 x2) 400 0).bind fun r6=>
  match r6 with
  |(.inl _)=>
   aB aD
  |(.inr r6)=>
   aB r6)
noncomputable def vZ (x0:SPr) (s7:Int) (s8:Int):Option (Int⊕(Unit⊕Bool)):=
 (ixO x0.zB s7).bind fun v11=>
 cond (decide (s8<(v11.length:Int))) (
  (ixO x0.zB s7).bind fun v12=>
  (ixO v12 s8).bind fun v13=>
  (vO x0.zA v13 s7).bind fun r14=>
  cond (!r14) (
   aB (.inr (.inr aE))) (
   (rng (s8+1)).bind fun v15=>
   aB (.inl v15))) (
  aB (.inr (.inl ())))
noncomputable def uA (x0:SPr) (s7:Int):Option (Int⊕(Unit⊕Bool)):=
 cond (decide (s7<(x0.zA.length:Int))) (
  (ixO x0.zF s7).bind fun v6=>
  (vO x0.zA v6 s7).bind fun r7=>
  cond (!r7) (
   aB (.inr (.inr aE))) (
   (ixO x0.zB s7).bind fun v8=>
   (rng ((x0.zA.length:Int)-1)).bind fun v9=>
   (rng (v9-s7)).bind fun v10=>
   cond ((v8.length:Int) != v10) (
    aB (.inr (.inr aE))) (
    (yN (vZ x0 s7) 400 0).bind fun r16=>
    match r16 with
    |(.inl _)=>
     (rng (s7+1)).bind fun v17=>
     aB (.inl v17)
    |(.inr r16)=>
     aB (.inr (.inr r16))))) (
  aB (.inr (.inl ())))
noncomputable def uI (x0:SPr):Option Bool:=
 cond (decide ((x0.zA.length:Int)> 6)) (
  aB aE) (
  cond ((x0.zF.length:Int) != (x0.zA.length:Int)) (
   aB aE) (
   cond ((x0.zB.length:Int) != (x0.zA.length:Int)) (
    aB aE) (
    (yN (zMM x0) 400 0).bind fun r4=>
    match r4 with
    |(.inl _)=>
     (uH x0.zA).bind fun r5=>
     cond (decide (r5> 729)) (
      aB aE) (
      (yN (uA x0) 400 0).bind fun r18=>
      match r18 with
      |(.inl _)=>
       aB aD
      |(.inr r18)=>
       aB r18)
    |(.inr r4)=>
     aB r4)))
noncomputable def kT (x0:List Int) (x1:List Int):Option Bool:=
 cond ((x0.length:Int) != (x1.length:Int)) (
  aB aE) (
  (yN (zUm x0 x1) 400 0).bind fun r4=>
  match r4 with
  |(.inl _)=>
   aB aD
  |(.inr r4)=>
   aB r4)
noncomputable def qA (x0:Int) (x1:List Int) (x2:List (List Int)) (s5:(List Int)×Int):Option (((List Int)×Int)⊕(List Int)):=
 cond (decide (s5.2<(x1.length:Int))) (
  cond (decide (s5.2<(x2.length:Int))) (
   (yN (zMN x0 x1 x2 s5) 400 (s5.1,0)).bind fun r12=>
   (rng (s5.2+1)).bind fun v13=>
   aB (.inl (r12,v13))) (
   aB (.inr s5.1))) (
  aB (.inr s5.1))
noncomputable def qP (x0:Int) (x1:List Int) (x2:List (List Int)) (x3:Int):Option (List Int):=
 (zU x3).bind fun m1=>
 (yN (qA x0 x1 x2) 400 (J1 m1 (0:Int),0)).bind fun r14=>
 aB r14
noncomputable def tQ (x0:Int) (x1:List (List Int)) (x2:List (List Int)) (x3:Int) (s1:(List (List Int))×Int):Option (((List (List Int))×Int)⊕(List (List Int))):=
 cond (decide (s1.2<(x1.length:Int))) (
  (ixO x1 s1.2).bind fun v1=>
  (qP x0 v1 x2 x3).bind fun r2=>
  (yD s1.1 [r2]).bind fun v3=>
  (rng (s1.2+1)).bind fun v4=>
  aB (.inl (v3,v4))) (
  aB (.inr s1.1))
noncomputable def sK (x0:Int) (x1:List (List Int)) (x2:List (List Int)) (x3:Int):Option (List (List Int)):=
 (yN (tQ x0 x1 x2 x3) 400 ([],0)).bind fun r5=>
 aB r5
noncomputable def kU (x0:List Int):Option Bool:=
 (yN (zPC x0) 400 0).bind fun r3=>
 match r3 with
 |(.inl _)=>
  aB aD
 |(.inr r3)=>
  aB r3
noncomputable def uP (x0:List (List Int)):Option (List (List Int)):=
 (yN (zMY x0) 400 ([],0)).bind fun r5=>
 aB r5
noncomputable def tR (x0:List Int) (s5:(List (List Int))×(List (List (List Int)))×Int):Option (((List (List Int))×(List (List (List Int)))×Int)⊕((List (List Int))×(List (List (List Int))))):=
 cond (decide (s5.2.2<(x0.length:Int))) (
  (zU (x0.length:Int)).bind fun m2=>
  (yD s5.1 [J1 m2 (0:Int)]).bind fun v3=>
  (rng (s5.2.2+1)).bind fun v4=>
  (yN (zMZ x0) 400 ([],v4)).bind fun r8=>
  (yD s5.2.1 [r8]).bind fun v9=>
  (rng (s5.2.2+1)).bind fun v10=>
  aB (.inl (v3,v9,v10))) (
  aB (.inr (s5.1,s5.2.1)))
noncomputable def xS (x0:List Int):Option SPr:=
 (f_m x0).bind fun r1=>
 (yN (tR x0) 400 ([],[],0)).bind fun r11=>
 aB (SPr.mk r1 r11.1 r11.2)
noncomputable def tS (s5:Int×(List Int)×Int):Option ((Int×(List Int)×Int)⊕(Int×(List Int))):=
 cond (decide (s5.2.2≤7)) (
  (yN (zU5 s5) 400 (s5.1,s5.2.1)).bind fun r5=>
  (rng (s5.2.2+1)).bind fun v6=>
  aB (.inl (r5.1,r5.2,v6))) (
  aB (.inr (s5.1,s5.2.1)))
noncomputable def wE (x0:Int):Option ((List Int)×Bool):=
 (yN tS 400 (x0,[],2)).bind fun r7=>
 aB (r7.2,(r7.1==1))
noncomputable def xY (x0:Int):Option (SPr×Int):=
 (zEG x0 1 729).bind fun r1=>
 cond (!r1) (
  aB ((SPr.mk [] [] []),2)) (
  (wE x0).bind fun r2=>
  cond (!r2.2) (
   aB ((SPr.mk [] [] []),2)) (
   cond (decide ((r2.1.length:Int)> 6)) (
    aB ((SPr.mk [] [] []),3)) (
    (xS r2.1).bind fun r3=>
    (yN (zMg r2) 400 (r3.zF,0)).bind fun r9=>
    aB ((SPr.mk r3.zA r9 r3.zB),0))))
noncomputable def vP (x0:List Int) (x1:Int) (x2:Int):Option (List Int):=
 (zU (x0.length:Int)).bind fun m1=>
 (yN (zPQ x0) 400 (x2,J1 m1 (0:Int),x1)).bind fun r8=>
 aB r8
noncomputable def tK (x0:Int) (x1:Int) (x2:Int):Option Int:=
 (yV 1 x2).bind fun v1=>
 (yN (zPR x2) 400 (x0,x1,v1)).bind fun r11=>
 aB r11
noncomputable def qQ (v4:List Int) (s7:(List (List (List Int)))×Int×Int) (s8:(List (List (List Int)))×Int):Option (((List (List (List Int)))×Int)⊕(List (List (List Int)))):=
 cond (decide (s8.2<(v4.length:Int))) (
  (ixO s8.1 s7.2.2).bind fun v18=>
  (rng (s8.2-s7.2.2)).bind fun v19=>
  (rng (v19-1)).bind fun v20=>
  (vP v4 s8.2 s7.2.1).bind fun r21=>
  (ixO v18 v20).bind fun _=>
  (rng (s8.2+1)).bind fun v23=>
  aB (.inl (s8.1.set s7.2.2.toNat (v18.set v20.toNat r21),v23))) (
  aB (.inr s8.1))
noncomputable def qR (x1:Int) (r1:(List Int)×Bool) (v4:List Int) (s7:(List (List (List Int)))×Int×Int):Option (((List (List (List Int)))×Int×Int)⊕(List (List (List Int)))):=
 cond (decide (s7.2.2<(r1.1.length:Int))) (
  (yN (qQ v4 s7) 400 (s7.1,(r1.1.length:Int))).bind fun r24=>
  (ixO r1.1 s7.2.2).bind fun v25=>
  (tK s7.2.1 v25 x1).bind fun r26=>
  (rng (s7.2.2+1)).bind fun v27=>
  aB (.inl (r24,r26,v27))) (
  aB (.inr s7.1))
noncomputable def qS (v4:List Int) (s15:(List (List (List Int)))×Int×Int) (s16:(List (List (List Int)))×Int):Option (((List (List (List Int)))×Int)⊕(List (List (List Int)))):=
 cond (decide (s16.2<(v4.length:Int))) (
  (ixO s16.1 s15.2.2).bind fun v30=>
  (rng (s16.2-s15.2.2)).bind fun v31=>
  (rng (v31-1)).bind fun v32=>
  (vP v4 s16.2 s15.2.1).bind fun r33=>
  (ixO v30 v32).bind fun _=>
  (rng (s16.2+1)).bind fun v35=>
  aB (.inl (s16.1.set s15.2.2.toNat (v30.set v32.toNat r33),v35))) (
  aB (.inr s16.1))
noncomputable def qT (x1:Int) (r1:(List Int)×Bool) (v4:List Int) (s15:(List (List (List Int)))×Int×Int):Option (((List (List (List Int)))×Int×Int)⊕(List (List (List Int)))):=
 cond (decide (s15.2.2<(r1.1.length:Int))) (
  (yN (qS v4 s15) 400 (s15.1,(r1.1.length:Int))).bind fun r36=>
  (ixO r1.1 s15.2.2).bind fun v37=>
  (tK s15.2.1 v37 x1).bind fun r38=>
  (rng (s15.2.2+1)).bind fun v39=>
  aB (.inl (r36,r38,v39))) (
  aB (.inr s15.1))
noncomputable def xI (x0:Int) (x1:Int) (x2:Int) (x3:Int):Option SPr:=
 (wE x0).bind fun r1=>
 (wE x1).bind fun r2=>
 (f_m r1.1).bind fun r3=>
 (yD r3 r2.1).bind fun v4=>
 (xS v4).bind fun r5=>
 (yN (zRQ r1 v4) 400 (r5.zF,0)).bind fun r13=>
 cond (decide ((r1.1.length:Int)> 0)) (
  (rng ((r1.1.length:Int)-1)).bind fun v14=>
  (vP v4 (r1.1.length:Int) x3).bind fun r15=>
  (ixO r13 v14).bind fun _=>
  (yV x2 x1).bind fun v17=>
  (yN (qR x1 r1 v4) 400 (r5.zB,v17,0)).bind fun r28=>
  aB (SPr.mk r5.zA (r13.set v14.toNat r15) r28)) (
  (yV x2 x1).bind fun v29=>
  (yN (qT x1 r1 v4) 400 (r5.zB,v29,0)).bind fun r40=>
  aB (SPr.mk r5.zA r13 r40))
noncomputable def sL (x0:Int) (x1:List (List Int)) (r1:(List Int)×Bool) (s13:(List (List (List Int)))×(List (List Int))×Int) (s16:(List (List Int))×Int):Option (((List (List Int))×Int)⊕(List (List Int))):=
 (ixO r1.1 s13.2.2).bind fun v23=>
 cond (decide (s16.2<v23)) (
  (sK x0 s16.1 s13.2.1 (x1.length:Int)).bind fun r24=>
  (rng (s16.2+1)).bind fun v25=>
  aB (.inl (r24,v25))) (
  aB (.inr s16.1))
noncomputable def sM (x0:Int) (x1:List (List Int)) (r1:(List Int)×Bool) (s13:(List (List (List Int)))×(List (List Int))×Int):Option (((List (List (List Int)))×(List (List Int))×Int)⊕(List (List (List Int)))):=
 cond (decide (s13.2.2<(r1.1.length:Int))) (
  (yN (zRT x1 r1 s13) 400 (s13.1,0)).bind fun r22=>
  (yN (sL x0 x1 r1 s13) 400 (s13.2.1,1)).bind fun r26=>
  (rng (s13.2.2+1)).bind fun v27=>
  aB (.inl (r22,r26,v27))) (
  aB (.inr s13.1))
noncomputable def xN (x0:Int) (x1:List (List Int)) (x2:Int):Option SPr:=
 (wE x2).bind fun r1=>
 (f_m r1.1).bind fun r2=>
 (yN (zU6 x0 x1) 400 (r2,0)).bind fun r5=>
 (xS r5).bind fun r6=>
 (yN (zRS r1 r5) 400 (r6.zF,0)).bind fun r12=>
 (uP x1).bind fun r13=>
 (yN (sM x0 x1 r1) 400 (r6.zB,r13,0)).bind fun r28=>
 aB (SPr.mk r6.zA r12 r28)
noncomputable def uB (x0:ByteArray) (x1:Int):Option (List ByteArray):=
 (yN (zPY x0 x1) 400 ([],0,0)).bind fun r7=>
 (zEE x0 r7.2 (x0.size:Int)).bind fun v8=>
 (yD r7.1 [v8]).bind fun v9=>
 aB v9
noncomputable def qU (x0:ByteArray):Option Int:=
 cond ((x0.size:Int)==0) (
  aB (-1)) (
  cond (decide ((x0.size:Int)> 6)) (
   aB (-1)) (
   cond (decide ((x0.size:Int)> 1)) (
    (zA5 x0 0).bind fun v1=>
    cond (v1==48) (
     aB (-1)) (
     (yN (zPZ x0) 400 (0,0)).bind fun r8=>
     match r8 with
     |(.inl r8)=>
      aB r8
     |(.inr r8)=>
      aB r8)) (
    (yN (zQa x0) 400 (0,0)).bind fun r15=>
    match r15 with
    |(.inl r15)=>
     aB r15
    |(.inr r15)=>
     aB r15)))
noncomputable def sN (r1:(List ByteArray)) (s1:(List Int)×Int):Option (((List Int)×Int)⊕((List Int)⊕((List Int)×Bool))):=
 cond (decide (s1.2<(r1.length:Int))) (
  (ixO r1 s1.2).bind fun v2=>
  (qU v2).bind fun r3=>
  (zKs r3).bind fun r4=>
  cond (!r4) (
   aB (.inr (.inr ([],aE)))) (
   cond (decide (s1.2≥6)) (
    aB (.inr (.inr ([],aE)))) (
    (yD s1.1 [r3]).bind fun v5=>
    (rng (s1.2+1)).bind fun v6=>
    aB (.inl (v5,v6))))) (
  aB (.inr (.inl s1.1)))
noncomputable def qB (x0:ByteArray):Option ((List Int)×Bool):=
 cond (zC2 x0 (ByteArray.mk #[49])) (
  aB ([],aD)) (
  (uB x0 32).bind fun r1=>
  (yN (sN r1) 400 ([],0)).bind fun r7=>
  match r7 with
  |(.inl r7)=>
   (uH r7).bind fun r8=>
   aB (r7,decide (r8≤729))
  |(.inr r7)=>
   aB r7)
noncomputable def qV (x0:Int) (x1:ByteArray):Option ((List Int)×Bool):=
 cond (zC2 x1 (ByteArray.mk #[49])) (
  aB ([],aD)) (
  (yN (zQb x0 x1) 400 ([],0)).bind fun r14=>
  match r14 with
  |(.inl r14)=>
   aB (r14,decide ((r14.length:Int)> 0))
  |(.inr r14)=>
   aB r14)
noncomputable def qC (x0:Int) (x1:List Int):Option ((List Int)×Bool):=
 (zU x0).bind fun m1=>
 (yN (zQc x1) 400 (J1 m1 (0:Int),0)).bind fun r11=>
 match r11 with
 |(.inl r11)=>
  aB (r11,aD)
 |(.inr r11)=>
  aB r11
noncomputable def kV (x0:SPr) (s1:(List (List (List Int)))×Int):Option (((List (List (List Int)))×Int)⊕(List (List (List Int)))):=
 cond (decide (s1.2<(x0.zB.length:Int))) (
  (ixO x0.zB s1.2).bind fun v3=>
  (uP v3).bind fun r4=>
  (yD s1.1 [r4]).bind fun v5=>
  (rng (s1.2+1)).bind fun v6=>
  aB (.inl (v5,v6))) (
  aB (.inr s1.1))
noncomputable def zA1 (x0:SPr):Option SPr:=
 (f_m x0.zA).bind fun r1=>
 (uP x0.zF).bind fun r2=>
 (yN (kV x0) 400 ([],0)).bind fun r7=>
 aB (SPr.mk r1 r2 r7)
noncomputable def tE (x0:Int):Option ByteArray:=zHT 40 x0
noncomputable def tT (x0:SPr) (x1:ByteArray):Option (SPr×Bool):=
 (uB x1 61).bind fun r1=>
 cond ((r1.length:Int) != 2) (
  aB (x0,aE)) (
  (ixO r1 0).bind fun v2=>
  cond ((v2.size:Int) != 4) (
   aB (x0,aE)) (
   (ixO r1 0).bind fun v3=>
   (zA5 v3 0).bind fun v4=>
   cond (v4 != 32) (
    aB (x0,aE)) (
    (ixO r1 0).bind fun v5=>
    (zA5 v5 2).bind fun v6=>
    cond (v6 != 94) (
     aB (x0,aE)) (
     (ixO r1 1).bind fun v7=>
     (qV (x0.zA.length:Int) v7).bind fun r8=>
     cond (!r8.2) (
      aB (x0,aE)) (
      (qC (x0.zA.length:Int) r8.1).bind fun r9=>
      (ixO r1 0).bind fun v10=>
      (zA5 v10 1).bind fun v11=>
      (rng ((IntKind.wrap .i64 v11)-97)).bind fun v12=>
      (ixO r1 0).bind fun v13=>
      (zA5 v13 3).bind fun v14=>
      (rng ((IntKind.wrap .i64 v14)-97)).bind fun v15=>
      cond (!r9.2) (
       aB (x0,aE)) (
       cond (decide (v12<0)) (
        aB (x0,aE)) (
        cond (decide (v12≥(x0.zA.length:Int))) (
         aB (x0,aE)) (
         (zA1 x0).bind fun r16=>
         (ixO r1 0).bind fun v17=>
         (zEE v17 3 (v17.size:Int)).bind fun v18=>
         (ixO x0.zA v12).bind fun v19=>
         (tE v19).bind fun r20=>
         cond (zC2 v18 r20) (
          (ixO r16.zF v12).bind fun _=>
          aB ((SPr.mk r16.zA (r16.zF.set v12.toNat r9.1) r16.zB),aD)) (
          cond (decide (v15<0)) (
           aB (x0,aE)) (
           cond (decide (v15≥v12)) (
            aB (x0,aE)) (
            (ixO r16.zB v15).bind fun v22=>
            (rng (v12-v15)).bind fun v23=>
            (rng (v23-1)).bind fun v24=>
            (ixO v22 v24).bind fun _=>
            aB ((SPr.mk r16.zA r16.zF (r16.zB.set v15.toNat (v22.set v24.toNat r9.1))),aD))))))))))))
noncomputable def uQ (x0:List Int):Option ByteArray:=
 cond ((x0.length:Int)==0) (
  aB (ByteArray.mk #[49])) (
  (yN (zQd x0) 400 ([],0)).bind fun r12=>
  aB (b2s r12))
noncomputable def vQ (x0:Int):Option ByteArray:=
 (rng (x0+1)).bind fun v1=>
 (uQ [v1]).bind fun r2=>
 aB r2
noncomputable def qW (x0:List Int) (s5:(List Int)×Int):Option (((List Int)×Int)⊕(List Int)):=
 cond (decide (s5.2<(x0.length:Int))) (
  (yN (zU7 x0 s5) 400 (s5.1,0)).bind fun r5=>
  (rng (s5.2+1)).bind fun v6=>
  aB (.inl (r5,v6))) (
  aB (.inr s5.1))
noncomputable def sF (x0:List Int):Option (List Int):=
 (yN (qW x0) 400 ([],0)).bind fun r7=>
 aB r7
noncomputable def qX (x0:SPr) (s1:ByteArray×Int):Option ((ByteArray×Int)⊕ByteArray):=
 cond (decide (s1.2<(x0.zA.length:Int))) (
  cond (decide (s1.2> 0)) (
   (wN s1.1 (ByteArray.mk #[32])).bind fun v1=>
   (ixO x0.zA s1.2).bind fun v2=>
   (tE v2).bind fun r3=>
   (wN v1 r3).bind fun v4=>
   (rng (s1.2+1)).bind fun v5=>
   aB (.inl (v4,v5))) (
   (ixO x0.zA s1.2).bind fun v6=>
   (tE v6).bind fun r7=>
   (wN s1.1 r7).bind fun v8=>
   (rng (s1.2+1)).bind fun v9=>
   aB (.inl (v8,v9)))) (
  aB (.inr s1.1))
noncomputable def qY (x0:SPr) (s3:ByteArray×Int):Option ((ByteArray×Int)⊕ByteArray):=
 cond (decide (s3.2<(x0.zA.length:Int))) (
  (ixO x0.zF s3.2).bind fun v11=>
  (kU v11).bind fun r12=>
  cond (!r12) (
   (wN s3.1 (ByteArray.mk #[59,32])).bind fun v13=>
   (vQ s3.2).bind fun r14=>
   (wN v13 r14).bind fun v15=>
   (wN v15 (ByteArray.mk #[94])).bind fun v16=>
   (ixO x0.zA s3.2).bind fun v17=>
   (tE v17).bind fun r18=>
   (wN v16 r18).bind fun v19=>
   (wN v19 (ByteArray.mk #[61])).bind fun v20=>
   (ixO x0.zF s3.2).bind fun v21=>
   (sF v21).bind fun r22=>
   (uQ r22).bind fun r23=>
   (wN v20 r23).bind fun v24=>
   (rng (s3.2+1)).bind fun v25=>
   aB (.inl (v24,v25))) (
   (rng (s3.2+1)).bind fun v26=>
   aB (.inl (s3.1,v26)))) (
  aB (.inr s3.1))
noncomputable def qZ (x0:SPr) (s9:ByteArray×Int) (s10:ByteArray×Int):Option ((ByteArray×Int)⊕ByteArray):=
 cond (decide (s10.2<(x0.zA.length:Int))) (
  (ixO x0.zB s9.2).bind fun v29=>
  (rng (s10.2-s9.2)).bind fun v30=>
  (rng (v30-1)).bind fun v31=>
  (ixO v29 v31).bind fun v32=>
  (zGj (x0.zA.length:Int) s10.2).bind fun r33=>
  (kT v32 r33).bind fun r34=>
  cond (!r34) (
   (wN s10.1 (ByteArray.mk #[59,32])).bind fun v35=>
   (vQ s10.2).bind fun r36=>
   (wN v35 r36).bind fun v37=>
   (wN v37 (ByteArray.mk #[94])).bind fun v38=>
   (vQ s9.2).bind fun r39=>
   (wN v38 r39).bind fun v40=>
   (wN v40 (ByteArray.mk #[61])).bind fun v41=>
   (ixO x0.zB s9.2).bind fun v42=>
   (rng (s10.2-s9.2)).bind fun v43=>
   (rng (v43-1)).bind fun v44=>
   (ixO v42 v44).bind fun v45=>
   (sF v45).bind fun r46=>
   (uQ r46).bind fun r47=>
   (wN v41 r47).bind fun v48=>
   (rng (s10.2+1)).bind fun v49=>
   aB (.inl (v48,v49))) (
   (rng (s10.2+1)).bind fun v50=>
   aB (.inl (s10.1,v50)))) (
  aB (.inr s10.1))
noncomputable def jN (x0:SPr) (s9:ByteArray×Int):Option ((ByteArray×Int)⊕ByteArray):=
 cond (decide (s9.2<(x0.zA.length:Int))) (
  (rng (s9.2+1)).bind fun v28=>
  (yN (qZ x0 s9) 400 (s9.1,v28)).bind fun r51=>
  (rng (s9.2+1)).bind fun v52=>
  aB (.inl (r51,v52))) (
  aB (.inr s9.1))
noncomputable def kW (x0:SPr):Option ByteArray:=
 cond ((x0.zA.length:Int)==0) (
  aB (ByteArray.mk #[49])) (
  (yN (qX x0) 400 ((ByteArray.mk #[]),0)).bind fun r10=>
  (yN (qY x0) 400 (r10,0)).bind fun r27=>
  (yN (jN x0) 400 (r27,0)).bind fun r53=>
  aB r53)
noncomputable def wX (r1:(List ByteArray)) (s1:(List Int)×(List (List Int))×(List (List (List Int)))×Int):Option (((List Int)×(List (List Int))×(List (List (List Int)))×Int)⊕(((List Int)×(List (List Int))×(List (List (List Int))))⊕(SPr×Int))):=
 cond (decide (s1.2.2.2<(r1.length:Int))) (
  (ixO r1 s1.2.2.2).bind fun v5=>
  (tT (SPr.mk s1.1 s1.2.1 s1.2.2.1) v5).bind fun r6=>
  cond (!r6.2) (
   aB (.inr (.inr ((SPr.mk [] [] []),6)))) (
   (rng (s1.2.2.2+1)).bind fun v7=>
   aB (.inl (r6.1.zA,r6.1.zF,r6.1.zB,v7)))) (
  aB (.inr (.inl (s1.1,s1.2.1,s1.2.2.1))))
noncomputable def vG (x0:ByteArray):Option (SPr×Int):=
 (uB x0 59).bind fun r1=>
 (ixO r1 0).bind fun v2=>
 (qB v2).bind fun r3=>
 cond (!r3.2) (
  aB ((SPr.mk [] [] []),6)) (
  (xS r3.1).bind fun r4=>
  (yN (wX r1) 400 (r4.zA,r4.zF,r4.zB,1)).bind fun r8=>
  match r8 with
  |(.inl r8)=>
   (uI (SPr.mk r8.1 r8.2.1 r8.2.2)).bind fun r9=>
   cond (!r9) (
    aB ((SPr.mk [] [] []),6)) (
    (kW (SPr.mk r8.1 r8.2.1 r8.2.2)).bind fun r10=>
    cond (!zC2 r10 x0) (
     aB ((SPr.mk [] [] []),6)) (
     aB ((SPr.mk r8.1 r8.2.1 r8.2.2),0)))
  |(.inr r8)=>
   aB r8)
noncomputable def jO (x0:Int):Option SPr:=
 (yV x0 10).bind fun v1=>
 (ixO [(ByteArray.mk #[49]),(ByteArray.mk #[50]),(ByteArray.mk #[50,32,50,59,32,97,94,50,61,98]),(ByteArray.mk #[50,32,51,59,32,98,94,97,61,98,98]),(ByteArray.mk #[51,32,50,32,50,59,32,98,94,97,61,99,59,32,99,94,97,61,98,99]),(ByteArray.mk #[50,32,51,32,50,32,50,59,32,98,94,97,61,98,98,59,32,99,94,97,61,100,59,32,100,94,97,61,99,59,32,99,94,98,61,100,59,32,100,94,98,61,99,100]),(ByteArray.mk #[51,32,50,32,50,32,50,59,32,98,94,50,61,100,59,32,99,94,50,61,100,59,32,98,94,97,61,99,59,32,99,94,97,61,98,99,59,32,99,94,98,61,99,100]),(ByteArray.mk #[50,32,50,32,50,59,32,97,94,50,61,99,59,32,98,94,50,61,99,59,32,98,94,97,61,98,99]),(ByteArray.mk #[50,32,50,32,50,59,32,98,94,97,61,98,99]),(ByteArray.mk #[50,32,50,32,50,32,50,59,32,99,94,97,61,99,100,59,32,99,94,98,61,99,100])] v1).bind fun v2=>
 (vG v2).bind fun r3=>
 cond (r3.2 != 0) (
  (xS [2]).bind fun r4=>
  aB r4) (
  aB r3.1)
instance m_f_spec_l07Product(x0:List Int):LeC (uH x0) (f_I x0):=⟨by unfold uH f_I;exact leS⟩
instance m_f_spec_l07Exponents(x0:List Int)(x1:List Int)(x2:Int):LeC (vO x0 x1 x2) (f_X x0 x1 x2):=⟨by unfold vO f_X;exact leS⟩
instance m_l2_spec_IsPresentation(x0:SPr)(s7:Int)(s8:Int):LeC (vZ x0 s7 s8) (zKt x0 s7 s8):=⟨by unfold vZ zKt;exact leS⟩
instance m_l3_spec_IsPresentation(x0:SPr)(s7:Int):LeC (uA x0 s7) (zHO x0 s7):=⟨by unfold uA zHO;exact leS⟩
instance m_f_spec_IsPresentation(x0:SPr):LeC (uI x0) (f_h x0):=⟨by unfold uI f_h;exact leS⟩
instance m_f_spec_l01Same(x0:List Int)(x1:List Int):LeC (kT x0 x1) (f_J x0 x1):=⟨by unfold kT f_J;exact leS⟩
instance m_l2_spec_l02Times(x0:Int)(x1:List Int)(x2:List (List Int))(s5:(List Int)×Int):LeC (qA x0 x1 x2 s5) (zKx x0 x1 x2 s5):=⟨by unfold qA zKx;exact leS⟩
instance m_f_spec_l02Times(x0:Int)(x1:List Int)(x2:List (List Int))(x3:Int):LeC (qP x0 x1 x2 x3) (f_z x0 x1 x2 x3):=⟨by unfold qP f_z;exact leS⟩
instance m_l1_spec_l02Product(x0:Int)(x1:List (List Int))(x2:List (List Int))(x3:Int)(s1:(List (List Int))×Int):LeC (tQ x0 x1 x2 x3 s1) (zKy x0 x1 x2 x3 s1):=⟨by unfold tQ zKy;exact leS⟩
instance m_f_spec_l02Product(x0:Int)(x1:List (List Int))(x2:List (List Int))(x3:Int):LeC (sK x0 x1 x2 x3) (f_K x0 x1 x2 x3):=⟨by unfold sK f_K;exact leS⟩
instance m_f_spec_l01Zero(x0:List Int):LeC (kU x0) (zHR x0):=⟨by unfold kU zHR;exact leS⟩
instance m_f_spec_l01Own2(x0:List (List Int)):LeC (uP x0) (f_R x0):=⟨by unfold uP f_R;exact leS⟩
instance m_l2_spec_l07Trivial(x0:List Int)(s5:(List (List Int))×(List (List (List Int)))×Int):LeC (tR x0 s5) (zHS x0 s5):=⟨by unfold tR zHS;exact leS⟩
instance m_f_spec_l07Trivial(x0:List Int):LeC (xS x0) (f_n x0):=⟨by unfold xS f_n;exact leS⟩
instance m_l2_spec_l07Factors(s5:Int×(List Int)×Int):LeC (tS s5) (zRO s5):=⟨by unfold tS zRO;exact leS⟩
instance m_f_spec_l07Factors(x0:Int):LeC (wE x0) (f_S x0):=⟨by unfold wE f_S;exact leS⟩
instance m_f_spec_CyclicPresentation(x0:Int):LeC (xY x0) (zRP x0):=⟨by unfold xY zRP;exact leS⟩
instance m_f_spec_l07Digits(x0:List Int)(x1:Int)(x2:Int):LeC (vP x0 x1 x2) (zNa x0 x1 x2):=⟨by unfold vP zNa;exact leS⟩
instance m_f_spec_l01Power(x0:Int)(x1:Int)(x2:Int):LeC (tK x0 x1 x2) (zPS x0 x1 x2):=⟨by unfold tK zPS;exact leS⟩
instance m_l2_spec_l07Meta(v4:List Int)(s7:(List (List (List Int)))×Int×Int)(s8:(List (List (List Int)))×Int):LeC (qQ v4 s7 s8) (zPT v4 s7 s8):=⟨by unfold qQ zPT;exact leS⟩
instance m_l3_spec_l07Meta(x1:Int)(r1:(List Int)×Bool)(v4:List Int)(s7:(List (List (List Int)))×Int×Int):LeC (qR x1 r1 v4 s7) (zPU x1 r1 v4 s7):=⟨by unfold qR zPU;exact leS⟩
instance m_l4_spec_l07Meta(v4:List Int)(s15:(List (List (List Int)))×Int×Int)(s16:(List (List (List Int)))×Int):LeC (qS v4 s15 s16) (zPV v4 s15 s16):=⟨by unfold qS zPV;exact leS⟩
instance m_l5_spec_l07Meta(x1:Int)(r1:(List Int)×Bool)(v4:List Int)(s15:(List (List (List Int)))×Int×Int):LeC (qT x1 r1 v4 s15) (zPW x1 r1 v4 s15):=⟨by unfold qT zPW;exact leS⟩
instance m_f_spec_l07Meta(x0:Int)(x1:Int)(x2:Int)(x3:Int):LeC (xI x0 x1 x2 x3) (f_f x0 x1 x2 x3):=⟨by unfold xI f_f;exact leS⟩
instance m_l4_spec_l07Affine(x0:Int)(x1:List (List Int))(r1:(List Int)×Bool)(s13:(List (List (List Int)))×(List (List Int))×Int)(s16:(List (List Int))×Int):LeC (sL x0 x1 r1 s13 s16) (zRU x0 x1 r1 s13 s16):=⟨by unfold sL zRU;exact leS⟩
instance m_l5_spec_l07Affine(x0:Int)(x1:List (List Int))(r1:(List Int)×Bool)(s13:(List (List (List Int)))×(List (List Int))×Int):LeC (sM x0 x1 r1 s13) (zPX x0 x1 r1 s13):=⟨by unfold sM zPX;exact leS⟩
instance m_f_spec_l07Affine(x0:Int)(x1:List (List Int))(x2:Int):LeC (xN x0 x1 x2) (f_l x0 x1 x2):=⟨by unfold xN f_l;exact leS⟩
instance m_f_spec_l01Split(x0:ByteArray)(x1:Int):LeC (uB x0 x1) (zNb x0 x1):=⟨by unfold uB zNb;exact leS⟩
instance m_f_spec_l01Value(x0:ByteArray):LeC (qU x0) (zRV x0):=⟨by unfold qU zRV;exact leS⟩
instance m_l1_spec_l07Orders(r1:(List ByteArray))(s1:(List Int)×Int):LeC (sN r1 s1) (zMh r1 s1):=⟨by unfold sN zMh;exact leS⟩
instance m_f_spec_l07Orders(x0:ByteArray):LeC (qB x0) (zRW x0):=⟨by unfold qB zRW;exact leS⟩
instance m_f_spec_l06Parse(x0:Int)(x1:ByteArray):LeC (qV x0 x1) (zRX x0 x1):=⟨by unfold qV zRX;exact leS⟩
instance m_f_spec_l07Vector(x0:Int)(x1:List Int):LeC (qC x0 x1) (zRY x0 x1):=⟨by unfold qC zRY;exact leS⟩
instance m_l1_spec_l07Own(x0:SPr)(s1:(List (List (List Int)))×Int):LeC (kV x0 s1) (zJ3 x0 s1):=⟨by unfold kV zJ3;exact leS⟩
instance m_f_spec_l07Own(x0:SPr):LeC (zA1 x0) (f_Q x0):=⟨by unfold zA1 f_Q;exact leS⟩
instance m_f_spec_l01Dec(x0:Int):LeC (tE x0) (f_e x0):=⟨Le.fu (n:=40) (g:=fun n=>zHT n x0) fun n=>by
 induction n generalizing x0 with
 |zero=>intro r h;cases h
 |succ n ih=>
  have:=fun x0=>LeC.mk (ih x0)
  show Le (b_e (zHT n) x0) (b_e (zHT (n+1)) x0);unfold b_e;exact leS⟩
instance m_f_spec_l07Relation(x0:SPr)(x1:ByteArray):LeC (tT x0 x1) (zRZ x0 x1):=⟨by unfold tT zRZ;exact leS⟩
instance m_f_spec_l06Text(x0:List Int):LeC (uQ x0) (zNc x0):=⟨by unfold uQ zNc;exact leS⟩
instance m_f_spec_l07Letter(x0:Int):LeC (vQ x0) (zNd x0):=⟨by unfold vQ zNd;exact leS⟩
instance m_l2_spec_l07Word(x0:List Int)(s5:(List Int)×Int):LeC (qW x0 s5) (zSa x0 s5):=⟨by unfold qW zSa;exact leS⟩
instance m_f_spec_l07Word(x0:List Int):LeC (sF x0) (f_W x0):=⟨by unfold sF f_W;exact leS⟩
instance m_l1_spec_l07Text(x0:SPr)(s1:ByteArray×Int):LeC (qX x0 s1) (zSb x0 s1):=⟨by unfold qX zSb;exact leS⟩
instance m_l2_spec_l07Text(x0:SPr)(s3:ByteArray×Int):LeC (qY x0 s3) (zSc x0 s3):=⟨by unfold qY zSc;exact leS⟩
instance m_l3_spec_l07Text(x0:SPr)(s9:ByteArray×Int)(s10:ByteArray×Int):LeC (qZ x0 s9 s10) (zSd x0 s9 s10):=⟨by unfold qZ zSd;exact leS⟩
instance m_l4_spec_l07Text(x0:SPr)(s9:ByteArray×Int):LeC (jN x0 s9) (zSe x0 s9):=⟨by unfold jN zSe;exact leS⟩
instance m_f_spec_l07Text(x0:SPr):LeC (kW x0) (f_v x0):=⟨by unfold kW f_v;exact leS⟩
instance m_l1_spec_ParsePresentation(r1:(List ByteArray))(s1:(List Int)×(List (List Int))×(List (List (List Int)))×Int):LeC (wX r1 s1) (zMi r1 s1):=⟨by unfold wX zMi;exact leS⟩
instance m_f_spec_ParsePresentation(x0:ByteArray):LeC (vG x0) (zSf x0):=⟨by unfold vG zSf;exact leS⟩
instance m_f_spec_l07Table(x0:Int):LeC (jO x0) (zSg x0):=⟨by unfold jO zSg;exact leS⟩
end Go.Wk
namespace Go.Pl
open Go Go.Ab Go.Wk
def shB(p:SPr):Bool:=decide (p.zA.length≤6)&&(p.zF.length==p.zA.length)&&p.zF.all (fun v=>v.length==p.zA.length)&&(p.zB.length==p.zA.length)&&(Jn p.zA.length).all fun i=>decide ((p.zB.getD i []).length≤p.zA.length-1-i)&&(p.zB.getD i []).all fun v=>v.length==p.zA.length
def okP(o:Option SPr):Bool:=match o with|some p=>shB p|none=>aE
theorem okP.of{a b:Option SPr}[h:LeC a b](k:okP a=aD):∃p,b=aB p∧shB p=aD:=by
 cases a with
 |none=>cases k
 |some p=>exact⟨p,h.h p rfl,k⟩
theorem zWq{m:Int}(h:m∈[3,4,5,6,7,8,9,12]):okP (xI 2 m (m-1) 0)=aD:=by revert m;decide+kernel
theorem zWr{m:Int}(h:m∈[4,6,8,12]):okP (xI 2 m (m-1) (m.tdiv 2))=aD:=by revert m;decide+kernel
theorem zWs:(okP (xI 3 7 2 0)&&okP (xI 4 5 2 0)&&okP (xI 2 8 3 0)&&okP (xI 2 8 5 0)&&okP (xI 4 4 3 0)&&okP (xI 3 9 4 0))=aD:=by decide+kernel
theorem aff:(okP (xN 3 [[2,0],[0,2]] 2)&&okP (xN 3 [[0,1],[2,0]] 4)&&okP (xN 2 [[0,1,0],[0,0,1],[1,1,0]] 7)&&okP (xN 2 [[1,1,0],[0,1,1],[0,0,1]] 4)&&okP (xN 2 [[0,1,0,0],[1,0,0,0],[0,0,0,1],[0,0,1,0]] 2)&&okP (xN 5 [[0,1],[4,4]] 3))=aD:=by decide+kernel
theorem cyc{n:Int}(h:n∈[1,4,6,8,9,12,5,7,27,25,36]):okP ((xY n).map (·.1))=aD:=by revert n;decide+kernel
theorem zOO:(Jn 10).all (fun k=>okP (jO k))=aD:=by decide+kernel
end Go.Pl

namespace Go.Pl
open Go Go.Ab Go.Wk Go.Pc
def Ans{α:Type}(o:Option α)(P:α→Prop):Prop:=∃r,o=aB r∧P r
theorem Ans.rt{α:Type}{P:α→Prop}{r:α}(h:P r):Ans (aB r) P:=⟨r,rfl,h⟩
theorem Ans.bd{α β:Type}{P:α→Prop}{Q:β→Prop}{o:Option α}{f:α→Option β}(h:Ans o P)(k:∀r,P r→Ans (f r) Q):Ans (o.bind f) Q:=by obtain⟨r,h1,h2⟩:=h;rw[h1,bs];exact k r h2
theorem Ans.cd{α:Type}{Q:α→Prop}{c:Bool}{a b:Option α}(h:c=aD→Ans a Q)(k:c=aE→Ans b Q):Ans (cond c a b) Q:=by
 cases c
 ·exact k rfl
 ·exact h rfl
theorem Ans.rg{β:Type}{Q:β→Prop}{n:Int}{f:Int→Option β}(h:-9223372036854775808≤n∧n≤9223372036854775807)(k:Ans (f n) Q):Ans ((rng n).bind f) Q:=by rw[zD h.1 h.2,bs];exact k
abbrev Ei{α β:Type}(P:α→Prop)(Q:β→Prop)(x:α⊕β):Prop:=match x with|.inl a=>P a|.inr b=>Q b
theorem Ans.lp{σ ρ:Type}{body:σ→Option (σ⊕ρ)}{Q:ρ→Prop}{s:σ}(I:Nat→σ→Prop)(n:Nat)(h0:I 0 s)
  (h:∀i s,i≤n→I i s→Ans (body s) (Ei (fun s'=>i<n∧I (i+1) s') Q)):Ans (zC body s) Q:=by
 refine uS I n (fun i s hi hs=>?_) (fun s hs=>?_) h0
 ·obtain⟨x,h1,h2⟩:=h i s (by omega) hs
  rcases x with s'|r
  ·exact .inl ⟨s',h1,h2.2⟩
  ·exact .inr ⟨r,h1,h2⟩
 ·obtain⟨x,h1,h2⟩:=h n s (by omega) hs
  rcases x with s'|r
  ·omega
  ·exact⟨r,h1,h2⟩
structure Src (s:zH):Prop where
 b:∀i(h:i<s.code.length),0≤s.code[i]∧s.code[i]≤255
 l:s.code.length≤68719476736
 a:0≤s.at_∧s.at_≤s.code.length
 s:0≤s.seed∧s.seed<2147483647
theorem wr{n:Int}(h:0≤n∧n≤255):IntKind.wrap .i64 n=n:=zAY (by simp[inR];omega)
theorem zET{m n:Int}(hn:0<n)(hm:0≤m):Ans (yV m n) fun r=>0≤r∧r<n:=by unfold yV;rw[if_neg (by omega)];exact .rt ⟨Qb _ hm,Gp _ hn⟩
theorem xZ{s:zH}(hs:Src s){n:Int}(hn:n≤68719476736):Ans (f_s s n) fun r=>Src r.2∧0≤r.1∧(r.1<n∨n≤1∧r.1=0):=by
 have h1:=hs.s;have h2:=hs.a;have hl:=hs.l;unfold f_s;refine .cd (fun h=>.rt ⟨hs,by omega,.inr ⟨by simpa using h,rfl⟩⟩) fun h=>?_
 have hn:1<n:=by simpa using h
 refine .rg (by omega) (.rg (by omega) (.bd (zET (by omega) (by omega)) fun v hv=>?_));have:xK v 47=aB (v.tdiv 47):=by
  have h3:=Qc hv.1 (show(0:Int)≤47 by omega);have h4:v.tdiv 47≤v:=by rw[Lg hv.1];omega
  unfold xK;rw[if_neg (by omega),zD (by omega) (by omega)]
 rw[this,bs];have h3:=Qc hv.1 (show(0:Int)≤47 by omega);have h4:v.tdiv 47≤v:=by rw[Lg hv.1];omega
 have key:∀{x:Int}{s':zH},0≤x→Src s'→Ans ((yV x n).bind fun v=>aB (v,s')) fun r=>Src r.2∧0≤r.1∧(r.1<n∨n≤1∧r.1=0):=fun hx gO=>
  .bd (zET (by omega) hx) fun v hv=>.rt ⟨gO,hv.1,.inl hv.2⟩
 refine .cd (fun h=>?_) fun h=>?_
 ·have h:s.at_<s.code.length:=by simpa using h
  obtain⟨i,hi⟩:∃i:Nat,s.at_=i:=⟨s.at_.toNat,by omega⟩;have hb:=hs.b i (by omega);rw[hi,zAg (by omega),bs,wr hb];refine .rg (by omega) (.rg (by omega) ?_);have hS:Src (zH.mk s.code (i+1) v):=⟨hs.b,hs.l,by simp only;omega,hv⟩;refine .cd (fun h=>.bd (zET (by omega) (by omega)) fun w hw=>.cd (fun h=>.rg (by omega) ?_) fun h=>key (by omega) hS) fun h=>key (by omega) hS
  rw[show((i:Int)+1-1)=i from by omega,zAg (by omega),bs,wr hb];exact key hb.1 hS
 ·exact key h3 ⟨hs.b,hs.l,hs.a,hv⟩
theorem zBy{s:zH}(hs:Src s){l:List Int}(h0:0<l.length)(hl:l.length≤1000):Ans (zGz s l) fun r=>Src r.2∧r.1∈l:=by
 unfold zGz;refine .bd (xZ hs (by omega)) fun r hr=>?_
 obtain⟨i,hi⟩:∃i:Nat,r.1=i:=⟨r.1.toNat,by omega⟩;rw[hi,zAg (by omega),bs];exact .rt ⟨hr.1,Kt _⟩
theorem zRi{c:List Int}(hb:∀i(h:i<c.length),0≤c[i]∧c[i]≤255)(hl:c.length≤68719476736):Ans (zPP c) Src:=by
 unfold zPP;refine .bd (P:=fun r=>0≤r∧r<2147483647) (.lp (fun i s=>s.2=i∧0≤s.1∧s.1<2147483647) 64 ⟨rfl,by simp,by simp⟩ fun i s hi hs=>?_) fun r hr=>.rt ⟨hb,hl,⟨Int.le_refl _,by simp only;omega⟩,hr⟩
 unfold zPO;refine .cd (fun h=>.cd (fun h'=>.rg (by omega) ?_) fun _=>.rt hs.2) fun _=>.rt hs.2
 simp only[decide_eq_true_eq]at h h';have:=hb i (by omega);rw[hs.1,zAg (by omega),bs,wr this];refine .rg (by omega) (.bd (zET (by omega) (by omega)) fun v hv=>.rg (by omega) (.rt ⟨by omega,by simp only;omega,hv⟩))
end Go.Pl

namespace Go.Pl
open Go Go.Ab Go.Wk Go.Pc
theorem zSQ{D k:Nat}(hk:k<D)(hD:D≤1000000):zGj (D:Int) (k:Int)=aB (vD D k):=kS hk hD
def trv(os:List Int):SPr:=⟨os,gl os.length fun _=>J1 os.length 0,gl os.length fun i=>gl (os.length-1-i) fun j=>vD os.length (i+1+j)⟩
theorem jP{os:List Int}(h:os.length≤1000000):f_n os=aB (trv os):=by
 unfold f_n;rw[wI h,bs];have gF:∀i:Nat,i<os.length→zC (zMZ os) ([],((i+1:Nat):Int))=aB (gl (os.length-1-i) fun j=>vD os.length (i+1+j)):=fun i hi=>by
  refine zP (fun j=>(gl j fun j=>vD os.length (i+1+j),((i+1+j:Nat):Int))) (os.length-1-i) (fun j hj=>?_) ?_
  ·unfold zMZ
   simp only
   rw[yS (by omega),zJ,zSQ (by omega) h,bs,zX (by rw[yW];simp;omega),bs,zD (by omega) (by omega),bs,cs,vC];rfl
  ·unfold zMZ
   simp only
   rw[show decide (((i+1+(os.length-1-i):Nat):Int)<os.length)=aE from by simp;omega,zK]
 have:=zP (body:=zHS os) (r:=((trv os).zF,(trv os).zB)) (fun i=>(gl i fun _=>J1 os.length 0,(gl i fun i=>gl (os.length-1-i) fun j=>vD os.length (i+1+j)),(i:Int))) os.length (fun i hi=>by
  unfold zHS;simp only
  rw[yS hi,zJ,yX (by omega),bs,zX (by rw[yW];simp;omega),bs,zD (by omega) (by omega),bs,cs,gF i hi,bs,zX (by rw[yW];simp;omega),bs,bs,vC,vC (F:=fun i=>gl (os.length-1-i) fun j=>vD os.length (i+1+j))]) (by
  unfold zHS;simp only
  rw[uU,zK];rfl)
 rw[show zC (zHS os) ([],[],0)=aB ((trv os).zF,(trv os).zB)from this,bs];rfl
structure ShF (p:SPr):Prop where
 n:p.zA.length≤6
 pl:p.zF.length=p.zA.length
 pr:∀v∈p.zF,v.length=p.zA.length
 cl:p.zB.length=p.zA.length
 c:∀i,i<p.zA.length→(p.zB.getD i []).length≤p.zA.length-1-i
 cr:∀i,i<p.zA.length→ ∀v∈p.zB.getD i [],v.length=p.zA.length
theorem shB.iff{p:SPr}(h:shB p=aD):ShF p:=by simp only[shB,J3,decide_eq_true_eq,beq_iff_eq,Jt,Jq]at h;exact⟨h.1.1.1.1,h.1.1.1.2,h.1.1.2,h.1.2,fun i hi=>(h.2 i hi).1,fun i hi=>(h.2 i hi).2⟩
theorem okP.sh{a b:Option SPr}[h:LeC a b](k:okP a=aD):Ans b ShF:=by obtain⟨p,h1,h2⟩:=okP.of (b:=b) k;exact⟨p,h1,shB.iff h2⟩
theorem zUi{os:List Int}(h:os.length≤6):ShF (trv os):=by
 refine⟨h,yW,fun v hv=>?_,yW,fun i hi=>?_,fun i hi v hv=>?_⟩
 ·simp[trv,gl]at hv;rw[←hv.2];simp[trv]
 ·have hi:i<os.length:=hi
  simp[trv,gl,hi]
 ·have hi:i<os.length:=hi
  simp[trv,gl,hi]at hv;obtain⟨_,_,rfl⟩:=hv;exact yT _ _
structure ShC (N:Nat) (c:List (List (List Int))):Prop where
 l:c.length=N
 r:∀i,i<N→(c.getD i []).length=N-1-i
theorem ShC.set{N:Nat}{c:List (List (List Int))}(h:ShC N c){i j:Nat}(hi:i<N){v:List Int}:ShC N (c.set i ((c.getD i []).set j v)):=by
 refine⟨by rw[Lm,h.l],fun k hk=>?_⟩;have:=h.l
 by_cases e:k=i
 ·subst e;have:=h.r k hk;grind
 ·have:=h.r k hk;grind
theorem zRj{os:List Int}:ShC os.length (trv os).zB:=⟨yW,fun i hi=>by simp[trv,gl,hi]⟩
theorem zDA{a b:Nat}{v:List Int}(ha:a≤1000)(hb:b≤1000)(hv:v.length≤1000):zJ2 a v b=aB (J1 a 0++v++J1 b 0):=by unfold zJ2;rw[yX (by omega),bs,zX (by simp;omega),bs];unfold xC;rw[if_pos (by simp;omega),bs];simp
theorem zHM{α:Type}{v:List α}{d:α}{i:Nat}(h:i<v.length):v.getD i d∈v:=by grind
theorem zRk{a b:SPr}(ha:ShF a)(hb:ShF b):Ans (f_w a b) fun p=>p.zA.length≤12:=by
 have h1:=ha.n;have h2:=hb.n;unfold f_w;rw[wI (by omega),bs,zX (by omega),bs,jP (by rw[Jb];omega),bs]
 generalize hN:(a.zA++b.zA).length=N
 have hN':N=a.zA.length+b.zA.length:=by rw[←hN,Jb]
 have hC:ShC N (trv (a.zA++b.zA)).zB:=hN▸zRj;have hP:(trv (a.zA++b.zA)).zF.length=N:=hN▸yW;refine .bd (P:=fun r=>r.1.length=N∧ShC N r.2) (.lp (fun i s=>s.2.2=i∧i≤a.zA.length∧s.1.length=N∧ShC N s.2.1) a.zA.length ⟨rfl,by omega,hP,hC⟩ fun i s hi hs=>?_) fun r hr=>?_
 ·obtain⟨e,_,pO,cY⟩:=hs
  unfold zSi;rw[e];refine .cd (fun h=>?_) fun h=>.rt ⟨pO,cY⟩
  simp only[decide_eq_true_eq]at h;have hv:=ha.pr (a.zF.getD i []) (zHM (by have:=ha.pl;omega));rw[zT [] (by have:=ha.pl;omega),bs,show(0:Int)=((0:Nat):Int)from rfl,zDA (by omega) (by omega) (by omega),bs,zT [] (by omega),bs];have hci:=ha.c i (by omega);refine .bd (P:=ShC N) (.lp (fun j t=>t.2=j∧ShC N t.1) (a.zB.getD i []).length ⟨rfl,cY⟩ fun j t hj ht=>?_) fun c hc=>.rg (by omega) (.rt ⟨by omega,by simp only;omega,by omega,by simp only[Lm];omega,hc⟩)
  unfold zSh;rw[e,ht.1,zT [] (by have:=ha.cl;omega),bs];refine .cd (fun h=>?_) fun h=>.rt ht.2
  simp only[decide_eq_true_eq]at h;have hv:=ha.cr i (by omega) ((a.zB.getD i []).getD j []) (zHM (by omega));have hr:=ht.2.r i (by omega);rw[zT [] (by have:=ht.2.l;omega),bs,bs,zT [] (by omega),bs,show(0:Int)=((0:Nat):Int)from rfl,zDA (by omega) (by omega) (by omega),bs,zT [] (by omega),bs];exact .rg (by omega) (.rt ⟨by omega,by simp only;omega,ht.2.set (by omega)⟩)
 refine .bd (P:=fun r=>True) (.lp (fun i s=>s.2.2=i∧i≤b.zA.length∧s.1.length=N∧ShC N s.2.1) b.zA.length ⟨rfl,by omega,hr⟩ fun i s hi hs=>?_) fun r hr=>.rt (show(trv _).zA.length≤12 by simp only[trv];omega)
 obtain⟨e,_,pO,cY⟩:=hs;unfold zSk;rw[e];refine .cd (fun h=>.rg (by omega) ?_) fun h=>.rt trivial
 simp only[decide_eq_true_eq]at h;have hv:=hb.pr (b.zF.getD i []) (zHM (by have:=hb.pl;omega));rw[zT [] (by have:=hb.pl;omega),bs,show(0:Int)=((0:Nat):Int)from rfl,zDA (by omega) (by omega) (by omega),bs,show(a.zA.length:Int)+(i:Int)=((a.zA.length+i:Nat):Int)from by omega,zT [] (by omega),bs];have hci:=hb.c i (by omega);refine .bd (P:=ShC N) (.lp (fun j t=>t.2=j∧ShC N t.1) (b.zB.getD i []).length ⟨rfl,cY⟩ fun j t hj ht=>?_) fun c hc=>.rg (by omega) (.rt ⟨by omega,by simp only;omega,by omega,by simp only[Lm];omega,hc⟩)
 unfold zSj;rw[e,ht.1,zT [] (by have:=hb.cl;omega),bs];refine .cd (fun h=>.rg (by omega) ?_) fun h=>.rt ht.2
 simp only[decide_eq_true_eq]at h;have hv:=hb.cr i (by omega) ((b.zB.getD i []).getD j []) (zHM (by omega));have hr:=ht.2.r (a.zA.length+i) (by omega);rw[show(a.zA.length:Int)+(i:Int)=((a.zA.length+i:Nat):Int)from by omega,zT [] (by have:=ht.2.l;omega),bs,bs,zT [] (by omega),bs,show(0:Int)=((0:Nat):Int)from rfl,zDA (by omega) (by omega) (by omega),bs,zT [] (by omega),bs];exact .rg (by omega) (.rt ⟨by omega,by simp only;omega,ht.2.set (by omega)⟩)
theorem zRl{s:zH}(hs:Src s){p:Int}(hp:p≤1000):Ans (zRR s p) fun r=>ShF r.1∧Src r.2:=by
 unfold zRR;rw[jP (by simp),bs];have e:trv [p,p,p]=⟨[p,p,p],[[0,0,0],[0,0,0],[0,0,0]],[[[0,1,0],[0,0,1]],[[0,0,1]],[]]⟩:=rfl;rw[e];have key:∀{x y:List Int}{t:zH},x.length=3→y.length=3→Src t→Ans (aB ((SPr.mk [p,p,p] [x,y,[0,0,0]] [[[0,1,1],[0,0,1]],[[0,0,1]],[]]),t)) fun r=>ShF r.1∧Src r.2:=fun hx hy ht=>.rt ⟨shB.iff (by simp[shB,hx,hy,L8]),ht⟩
 rw[show ixO (SPr.mk [p,p,p] [[0,0,0],[0,0,0],[0,0,0]] [[[0,1,0],[0,0,1]],[[0,0,1]],[]]).zB 0=aB [[0,1,0],[0,0,1]]from rfl,bs,show ixO [[(0:Int),1,0],[0,0,1]] 0=aB [0,1,0]from rfl,bs];refine .bd (xZ hs (by omega)) fun r hr=>.cd (fun _=>.bd (xZ hr.1 (by omega)) fun r1 gV=>?_) fun _=>key rfl rfl hr.1
 rw[show ixO (SPr.mk [p,p,p] [[0,0,0],[0,0,0],[0,0,0]] [[[0,1,0],[0,0,1]],[[0,0,1]],[]]).zF 0=aB [0,0,0]from rfl,bs];refine .bd (xZ gV.1 (by omega)) fun r2 gz=>?_
 rw[show ixO ((SPr.mk [p,p,p] [[0,0,0],[0,0,0],[0,0,0]] [[[0,1,0],[0,0,1]],[[0,0,1]],[]]).zF.set (0:Int).toNat [0,0,r1.1]) 1=aB [0,0,0]from rfl,bs];exact key rfl rfl gz.1
theorem zHd{s:zH}(hs:Src s):Ans (zQf s) fun r=>ShF r.1∧Src r.2:=by
 have pair:∀{o:Option SPr}{t:zH},Ans o ShF→Src t→Ans (o.bind fun p=>aB (p,t)) fun r=>ShF r.1∧Src r.2:=fun h ht=>.bd h fun p hp=>.rt ⟨hp,ht⟩
 unfold zQf;refine .bd (xZ hs (by omega)) fun r hr=>.cd (fun _=>.bd (xZ hr.1 (by omega)) fun r2 gz=>?_) fun _=>.cd (fun _=>.bd (zBy hr.1 (by simp) (by simp)) fun r2 gz=>?_) fun _=>.cd (fun _=>.bd (zBy hr.1 (by simp) (by simp)) fun r2 gz=>?_) fun _=>
  .cd (fun _=>.bd (zBy hr.1 (by simp) (by simp)) fun r2 gz=>?_) fun _=>.cd (fun _=>.bd (xZ hr.1 (by omega)) fun r2 gz=>?_) fun _=>.cd (fun _=>.bd (zBy hr.1 (by simp) (by simp)) fun r2 gz=>?_) fun _=>.cd (fun _=>.bd (xZ hr.1 (by omega)) fun r2 gz=>?_) fun _=>.bd (xZ hr.1 (by omega)) fun r2 gz=>?_
 ·refine .bd (P:=fun t=>Src ⟨t.1,t.2.1,t.2.2.1⟩∧t.2.2.2.length≤5) (.lp (fun i t=>t.2.2.2.2=r2.1-i∧Src ⟨t.1,t.2.1,t.2.2.1⟩∧t.2.2.2.1.length=i) r2.1.toNat ⟨by simp,gz.1,rfl⟩ fun i t hi ht=>?_) fun t ht=>pair ⟨_,jP (by omega),zUi (by omega)⟩ ht.1
  unfold zQe;refine .cd (fun h=>.bd (zBy ht.2.1 (by simp) (by simp)) fun r3 eB=>?_) fun h=>.rt ⟨ht.2.1,by simp only;omega⟩
  simp only[decide_eq_true_eq]at h;rw[zX (by simp;omega),bs];exact .rg (by omega) (.rt ⟨by omega,by simp only;omega,eB.1,by simp[ht.2.2]⟩)
 ·refine .bd (P:=fun t=>ShF t.1) ?_ fun t ht=>.rt ⟨ht,gz.1⟩
  have h:=cyc gz.2;cases e:xY r2.1 with
  |none=>rw[e]at h;cases h
  |some x=>exact⟨x,(m_f_spec_CyclicPresentation _).h x e,shB.iff (by rw[e]at h;exact h)⟩
 ·have:r2.1≤12∧3≤r2.1:=by have:=gz.2;simp at this;omega
  exact .rg (by omega) (pair (okP.sh (zWq gz.2)) gz.1)
 ·have:r2.1≤12∧3≤r2.1:=by have:=gz.2;simp at this;omega
  have e:xK r2.1 2=aB (r2.1.tdiv 2):=by have:=Lg (show 0≤r2.1 by omega) (b:=2);unfold xK;rw[if_neg (by omega),zD (by omega) (by omega)]
  refine .rg (by omega) ?_;rw[e,bs];exact pair (okP.sh (zWr gz.2)) gz.1
 ·have h:=zWs
  simp only[J3]at h;obtain⟨⟨⟨⟨⟨h1,h2⟩,h3⟩,h4⟩,h5⟩,h6⟩:=h;exact .cd (fun _=>pair (okP.sh h1) gz.1) fun _=>.cd (fun _=>pair (okP.sh h2) gz.1) fun _=>.cd (fun _=>pair (okP.sh h3) gz.1) fun _=>.cd (fun _=>pair (okP.sh h4) gz.1) fun _=>.cd (fun _=>pair (okP.sh h5) gz.1) fun _=>pair (okP.sh h6) gz.1
 ·have:r2.1≤5:=by have:=gz.2;simp at this;omega
  exact .bd (zRl gz.1 (by omega)) fun r hr=>.rt hr
 ·have h:=aff
  simp only[J3]at h;obtain⟨⟨⟨⟨⟨h1,h2⟩,h3⟩,h4⟩,h5⟩,h6⟩:=h;exact .cd (fun _=>pair (okP.sh h1) gz.1) fun _=>.cd (fun _=>pair (okP.sh h2) gz.1) fun _=>.cd (fun _=>pair (okP.sh h3) gz.1) fun _=>.cd (fun _=>pair (okP.sh h4) gz.1) fun _=>.cd (fun _=>pair (okP.sh h5) gz.1) fun _=>pair (okP.sh h6) gz.1
 ·have h:=zOO
  rw[Jt]at h;have:=h r2.1.toNat (Jq.2 (by omega));rw[show((r2.1.toNat:Nat):Int)=r2.1 from by omega]at this;exact pair (okP.sh this) gz.1
theorem zOP{s:zH}(hs:Src s){n:Int}:Ans (zSl s n) fun r=>sW r.1∧Src r.2:=by
 unfold zSl;refine .bd (P:=Ei (fun t=>Src ⟨t.1,t.2.1,t.2.2⟩) fun r=>sW r.1∧Src r.2) (.lp (fun i t=>t.2.2.2=i∧Src ⟨t.1,t.2.1,t.2.2.1⟩) 12 ⟨rfl,hs⟩ fun i t hi ht=>?_) fun x hx=>?_
 ·unfold zQg
  refine .cd (fun h=>?_) fun h=>.rt ht.2
  simp only[decide_eq_true_eq]at h;have key:∀{p:SPr}{t':zH},p.zA.length≤12→Src t'→Ans ((f_h p).bind fun r5=>
   cond r5 (
    (f_I p.zA).bind fun r6=>
    cond (decide (r6≤n)) (
     aB (.inr (.inr (p,t')))) (
     (rng (t.2.2.2+1)).bind fun v7=>
     aB (.inl (t'.code,t'.at_,t'.seed,v7)))) (
    (rng (t.2.2.2+1)).bind fun v8=>
    aB (.inl (t'.code,t'.at_,t'.seed,v8)))) (Ei (fun s':(List Int)×Int×Int×Int=>i<12∧s'.2.2.2=((i+1:Nat):Int)∧Src ⟨s'.1,s'.2.1,s'.2.2.1⟩) (Ei (fun t:(List Int)×Int×Int=>Src ⟨t.1,t.2.1,t.2.2⟩) fun r:SPr×zH=>sW r.1∧Src r.2)):=fun{p t'} hp mo=>by
   rcases vU (x:=p) (by omega)with⟨h1,h2⟩|⟨h1,h2⟩
   ·rw[h1,bs,zJ,zBq h2.os,bs]
    refine .cd (fun _=>.rt ⟨h2,mo⟩) fun _=>.rg (by omega) (.rt ⟨by omega,by simp only;omega,mo⟩)
   ·rw[h1,bs,zK]
    exact .rg (by omega) (.rt ⟨by omega,by simp only;omega,mo⟩)
  refine .bd (zHd ht.2) fun r1 gV=>.bd (xZ gV.2 (by omega)) fun r2 gz=>.cd (fun _=>.bd (zHd gz.1) fun r3 eB=>.bd (zRk gV.1 eB.1) fun r4 bP=>key bP eB.2) fun _=>key (p:=r1.1) (by have:=gV.1.n;omega) gz.1
 ·rcases x with t|r
  ·dsimp only
   rw[jP (by simp),bs];refine .rt ⟨?_,hx⟩;rcases vU (x:=trv [2]) (by simp[trv])with⟨h1,h2⟩|⟨h1,h2⟩
   ·exact h2
   ·have:=(m_f_spec_IsPresentation (trv [2])).h aD (by decide+kernel)
    rw[this]at h1;cases h1
  ·exact .rt hx
end Go.Pl

namespace Go.Pl
open Go Go.Ab Go.Wk Go.Pc
theorem zJn{α:Type}{v:List α}{a b:Nat}(h:a≤b)(k:b≤v.length):zN v (a:Int) (b:Int)=aB ((v.drop a).take (b-a)):=by unfold zN;exact if_pos (by omega)
structure DrP (p:SPr):Prop where
 n:p.zA.length≤7
 o:∀o∈p.zA,-100≤o∧o≤100
theorem sW.drp{p:SPr}(h:sW p):DrP p:=⟨by have:=h.n6;omega,fun o ho=>by obtain⟨i,hi,rfl⟩:=Jv.1 ho;have:=(h.os.2 i hi).pos;rw[at0,J2,J5 hi]at this;simp at this;omega⟩
section
variable {x:SPr} (h:Pres x)
 include h
theorem kX{i:Nat}(hi:i<x.zA.length):(x.zF.getD i []).length=x.zA.length:=(h.tl i hi).1.1.1
theorem jQ{i:Nat}(hi:i<x.zA.length):(x.zB.getD i []).length+i+1=x.zA.length:=(h.tl i hi).2.1
theorem jR{i j:Nat}(hi:i<x.zA.length)(hj:j+i+1<x.zA.length):((x.zB.getD i []).getD j []).length=x.zA.length:=((h.tl i hi).2.2 j (by have:=(h.tl i hi).2.1;omega)).1.1
end
end Go.Pl

namespace Go.Pl
open Go Go.Ab Go.Wk Go.Pc
end Go.Pl

namespace Go.Pl
open Go Go.Ab Go.Wk Go.Pc
theorem zWt{x:SPr}(hx:sW x):f_Q x=aB x:=by
 have h6:=hx.n6;unfold f_Q;rw[wI (by omega),bs,zEi (by have:=hx.pl;omega) (fun i hi=>by have:=kX hx.toPres (show i<x.zA.length by have:=hx.pl;omega);omega),bs];rw[zBY (body:=zJ3 x) x.zB.length (fun i=>x.zB.getD i []) (fun i acc hi ha=>by
  have gQ:i<x.zA.length:=by have:=hx.cl;omega
  have hc:=jQ hx.toPres gQ;have:=hx.cl;unfold zJ3;simp only
  rw[yS hi,zJ,zT [] hi,bs,zEi (by omega) (fun j hj=>by have:=jR hx.toPres gQ (show j+i+1<x.zA.length by omega);omega),bs,zX (by simp;omega),bs,zD (by omega) (by omega),bs,cs]) (fun acc=>by
  unfold zJ3;simp),bs]
 congr 2
 exact Hj (by simp) fun i h1 h2=>by simp at h1 ⊢;grind
theorem zDB{o:List Int}{p:List (List Int)}{c:List (List (List Int))}(h:o.length≤7)(k:∀x∈o,-100≤x∧x≤100):DrP ⟨o,p,c⟩:=⟨h,k⟩
theorem zRm{s:zH}{x:SPr}(hs:Src s)(hx:sW x):Ans (zSm s x) fun r=>DrP r.1∧Src r.2:=by
 have h6:=hx.n6;have ho:=hx.drp.o;have h7:=hx.drp.n;have eO:=hx.pl;have gC:=hx.cl;unfold zSm;rw[zWt hx,bs];refine .bd (xZ hs (by omega)) fun r hr=>.cd (fun _=>?_) fun _=>.cd (fun _=>.cd (fun hl=>.bd (zBy hr.1 (by simp) (by simp)) fun r1 gV=>?_) fun _=>.rt ⟨hx.drp,hr.1⟩) fun _=>.cd (fun _=>.cd (fun hl=>?_) fun _=>.rt ⟨hx.drp,hr.1⟩) fun _=>
  .cd (fun _=>.cd (fun hl=>?_) fun _=>.rt ⟨hx.drp,hr.1⟩) fun _=>.cd (fun _=>.cd (fun hl=>?_) fun _=>.rt ⟨hx.drp,hr.1⟩) fun _=>?_
 ·rw[zX (by simp;omega),bs]
  refine .rt ⟨zDB (by simp;omega) fun y hy=>?_,hr.1⟩;rcases Kd.1 hy with hy|hy
  ·exact ho y hy
  ·simp at hy;omega
 ·simp only[decide_eq_true_eq]at hl
  rw[show(0:Int)=((0:Nat):Int)from rfl,yK (by omega),bs];refine .rt ⟨zDB (by simpa using h7) fun y hy=>?_,gV.1⟩;rcases List.mem_or_eq_of_mem_set hy with hy|hy
  ·exact ho y hy
  ·have:=gV.2;simp at this;omega
 ·simp only[decide_eq_true_eq]at hl
  have:=kX hx.toPres (show 0<x.zA.length by omega);rw[show(0:Int)=((0:Nat):Int)from rfl,zT [] (by omega),bs,wI (by omega),bs,zX (by rw[Jh];omega),bs,bs];exact .rt ⟨zDB h7 ho,hr.1⟩
 ·simp only[decide_eq_true_eq]at hl
  have:=kX hx.toPres (show 0<x.zA.length by omega);rw[show(0:Int)=((0:Nat):Int)from rfl,zT [] (by omega),bs];refine .cd (fun _=>?_) fun _=>.rt ⟨hx.drp,hr.1⟩
  rw[bs,yK (by omega),bs];exact .rt ⟨zDB h7 ho,hr.1⟩
 ·simp only[decide_eq_true_eq]at hl
  have hc:=jQ hx.toPres (show 0<x.zA.length by omega);rw[show(0:Int)=((0:Nat):Int)from rfl,zT [] (by omega),bs,zEi (by omega) (fun j hj=>by have:=jR hx.toPres (show 0<x.zA.length by omega) (show j+0+1<x.zA.length by omega);omega),bs,yX (by omega),bs,zX (by rw[Jh];omega),bs,bs];exact .rt ⟨zDB h7 ho,hr.1⟩
 ·rw[jP (by simp),bs]
  refine .bd (xZ hr.1 (by omega)) fun r1 gV=>.cd (fun _=>?_) fun _=>.rt ⟨zDB (by simp) (by simp),gV.1⟩
  rw[jP (by simp),bs];exact .rt ⟨zDB (by simp) (by simp),gV.1⟩
theorem zLQ{s:zH}{x:SPr}(hs:Src s)(hx:sW x):Ans (zQh s x) fun r=>DrP r.1∧Src r.2:=by
 have h6:=hx.n6;have ho:=hx.drp.o;have h7:=hx.drp.n;have eO:=hx.pl;have gC:=hx.cl;unfold zQh;rw[zWt hx,bs];refine .bd (xZ hs (by omega)) fun r hr=>.rg (by omega) (.rg (by omega) (.rg (by omega) (.bd (xZ hr.1 (by omega)) fun r1 gV=>.rg (by omega) (.cd (fun _=>.rt ⟨hx.drp,gV.1⟩) fun hl=>.bd (xZ gV.1 (by omega)) fun r2 gz=>?_))))
 simp only[decide_eq_false_iff_not]at hl;obtain⟨i,hi⟩:∃i:Nat,r.1=i:=⟨r.1.toNat,by omega⟩;obtain⟨j,hj⟩:∃j:Nat,r.1+1+r1.1=j:=⟨(r.1+1+r1.1).toNat,by omega⟩;rw[hj,hi];have tc:=(hx.os.2 j (by omega)).pos;refine .cd (fun _=>?_) fun _=>.rg (by omega) (.rg (by omega) (.rg (by omega) (.bd (xZ gz.1 (by omega)) fun r3 eB=>.rg (by omega) ?_)))
 ·have:=kX hx.toPres (show i<x.zA.length by omega)
  rw[zT [] (by omega),bs,yK (by omega),bs];refine .bd (xZ gz.1 (by omega)) fun r3 eB=>?_
  rw[yK (by omega),bs];exact .rt ⟨zDB h7 ho,eB.1⟩
 ·obtain⟨k,hk⟩:∃k:Nat,(i:Int)+1+r3.1=k:=⟨((i:Int)+1+r3.1).toNat,by omega⟩
  rw[hk];have hc:=jQ hx.toPres (show i<x.zA.length by omega);have hr:=jR hx.toPres (show i<x.zA.length by omega) (show k-i-1+i+1<x.zA.length by omega);rw[zT [] (by omega),bs];refine .rg (by omega) (.rg (by omega) ?_);rw[show(k:Int)-i-1=((k-i-1:Nat):Int)from by omega,zT [] (by omega),bs,yK (by omega),bs];refine .bd (xZ eB.1 (by omega)) fun r4 bP=>?_
  rw[yK (by omega),bs];exact .rt ⟨zDB h7 ho,bP.1⟩
theorem zRn{s:zH}(hs:Src s){n:Int}:Ans (zSn s n) fun r=>DrP r.1∧Src r.2:=by unfold zSn;refine .bd (zOP hs) fun r hr=>.bd (xZ hr.2 (by omega)) fun r1 gV=>.cd (fun _=>.bd (zRm gV.1 hr.1) fun r2 gz=>.rt gz) fun _=>.cd (fun _=>.cd (fun _=>.bd (zLQ gV.1 hr.1) fun r2 gz=>.rt gz) fun _=>.rt ⟨hr.1.drp,gV.1⟩) fun _=>.cd (fun _=>.bd (zLQ gV.1 hr.1) fun r2 gz=>.rt gz) fun _=>.rt ⟨hr.1.drp,gV.1⟩
end Go.Pl

namespace Go.Pl
open Go Go.Ab Go.Wk Go.Pc
abbrev VU(n:Int):Prop:=(Lit.int .u8 n).wf=aD
theorem vu{c:List Int}(h:VL VU c)(i:Nat)(hi:i<c.length):0≤c[i]∧c[i]≤255:=by have:=h.2 c[i] (Kt hi);simp only[VU,Lit.wf,J3,IntKind.min,IntKind.max,IntKind.signed,IntKind.bits]at this;simpa using this
theorem zUj{c:List Int}:zRN c=aB (decide ((c.length:Int)> 4096)):=rfl
theorem zOQ{α:Type}{c:List Int}{P:α→Prop}{o:Option α}{k:α→Option Bool}(hb:∀i(h:i<c.length),0≤c[i]∧c[i]≤255)(ho:(∀s,Src s→zPP c=aB s→Ans o P))(hk:∀r,P r→k r=aB aD):
  ((zRN c).bind fun r1=>cond r1 (aB aD) (o.bind k))=aB aD:=by
 rw[zUj,bs]
 by_cases h:(c.length:Int)> 4096
 ·rw[aG h,zJ]
 ·rw[aF h,zK]
  obtain⟨s,h1,h2⟩:=zRi hb (by omega);obtain⟨r,h3,h4⟩:=ho s h2 h1;rw[h3,bs];exact hk r h4
end Go.Pl

namespace Go.Pl
open Go Go.Ab Go.Wk Go.Pc
theorem zE8{a b:List Int}(h:a.length≤1000000):zQi a b=aB (a==b):=zEa h
theorem zAF{A B:Mx}(hA:A.length≤1000000)(h:∀r∈A,r.length≤1000000):zHU A B=aB (A==B):=
 zII (t:=zQi) (body:=zQj A B) rfl (fun _=>rfl) (by omega) (by grind[zE8])
end Go.Pl

namespace Go.Pl
open Go Go.Ab Go.Wk Go.Pc
structure IsM (x:SPr) (m:zG) (D:Nat):Prop where
 gr:sJ x
 ok:MOk x.zA.length m D
 rel:zCY x m D
section
variable {x:SPr}{m:zG}{D:Nat} (h:IsM x m D)
 include h
theorem IsM.sp:zR2 x m=aB aD:=by
 have h6:=h.gr.1.os.1;rcases zCF (x:=x) (m:=m) (by omega)with⟨e,_⟩|⟨_,k⟩
 ·exact e
 ·exact absurd ⟨h.gr,D,h.ok,h.rel⟩ k
theorem IsM.im:f_B x m=aB aD:=by
 have h6:=h.gr.1.os.1;have:=h.ok.len;rcases zCG (x:=x) (m:=m) (by omega) (by omega)with⟨e,_⟩|⟨_,k⟩
 ·exact e
 ·exact absurd ⟨h.gr,D,h.ok,h.rel⟩ k
end
end Go.Pl

namespace Go.Pl
open Go Go.Ab Go.Wk Go.Pc
end Go.Pl

namespace Go.Pl
open Go Go.Ab Go.Wk Go.Pc
end Go.Pl

namespace Go.Pl
open Go Go.Ab Go.Wk Go.Pc
end Go.Pl

namespace Go.Pl
open Go Go.Ab Go.Wk Go.Pc
end Go.Pl

namespace Go.Pl
open Go Go.Ab Go.Wk Go.Pc
end Go.Pl

namespace Go.Pl
open Go Go.Ab Go.Wk Go.Pc
theorem zBz{A B:List Mx}(hA:A.length≤1000000)(h:∀M∈A,M.length≤1000000∧ ∀r∈M,r.length≤1000000):zSo A B=aB (A==B):=
 zII (t:=zHU) (body:=zQm A B) rfl (fun _=>rfl) (by omega) fun M hM _ _=>zAF (h M hM).1 (h M hM).2
structure Md (g:SPr):Prop where
 o:g.zA.length≤1000
 p:g.zF.length≤1000∧ ∀r∈g.zF,r.length≤1000
 c:g.zB.length≤1000∧ ∀M∈g.zB,M.length≤1000∧ ∀r∈M,r.length≤1000
theorem zAM{g:SPr}(h:Md g):zQn g g=aB aD:=by unfold zQn;rw[zE8 (by have:=h.o;omega),bs,beq_self_eq_true,zJ,zAF (by have:=h.p.1;omega) (fun r hr=>by have:=h.p.2 r hr;omega),bs,beq_self_eq_true,zJ,zBz (by have:=h.c.1;omega) (fun M hM=>⟨by have:=(h.c.2 M hM).1;omega,fun r hr=>by have:=(h.c.2 M hM).2 r hr;omega⟩),bs,beq_self_eq_true]
theorem zUk:Md ⟨[],[],[]⟩:=⟨by simp,by simp,by simp⟩
theorem qD{α:Type}{l:List α}{x d:α}(h:x∈l):∃i,i<l.length∧l.getD i d=x:=by obtain⟨i,hi,rfl⟩:=Jv.1 h;exact⟨i,hi,by grind⟩
section
variable {x:SPr}{m:zG}{D:Nat} (h:IsM x m D)
 include h
theorem IsM.spres:zSL x:=by
 have h6:=h.gr.1.os.1;have eO:=h.gr.1.pl;have gC:=h.gr.1.cl;refine⟨by simp only[S1,c1];omega,?_,?_⟩
 ·have:=zHc (c:=c1) (b:=14) (xs:=x.zF) fun y hy=>by
   obtain⟨i,hi,rfl⟩:=qD (d:=[]) hy;have:=kX h.gr.1 (show i<x.zA.length by omega);simp only[c1];omega
  have:x.zF.length*14≤14*14:=Ke 14 (by omega);simp only[S2,c2];omega
 ·have:=zHc (c:=c2) (b:=300) (xs:=x.zB) fun y hy=>by
   obtain⟨i,hi,rfl⟩:=qD (d:=[]) hy;have gQ:i<x.zA.length:=by omega
   have hl:=jQ h.gr.1 gQ;have:=zHc (c:=c1) (b:=14) (xs:=x.zB.getD i []) fun z hz=>by obtain⟨j,hj,rfl⟩:=qD (d:=[]) hz;have:=jR h.gr.1 gQ (show j+i+1<x.zA.length by omega);simp only[c1];omega
   have:(x.zB.getD i []).length*14≤14*14:=Ke 14 (by omega);simp only[c2];omega
  have:x.zB.length*300≤14*300:=Ke 300 (by omega);simp only[S3,c3];omega
theorem IsM.smod:zTR m:=by
 have h6:=h.gr.1.os.1;have h3:=h.ok.d3;have hl:=h.ok.len;have:=zHc (c:=c2) (b:=100) (xs:=m.zE) fun y hy=>by
  obtain⟨i,hi,rfl⟩:=qD (d:=[]) hy;have hA:=h.ok.mat i (by omega);have fj:=hA.1;have:=zHc (c:=c1) (b:=3) (xs:=m.zE.getD i []) fun z hz=>by obtain⟨j,hj,rfl⟩:=qD (d:=[]) hz;have:=(hA.2 j (by omega)).1;simp only[c1];omega
  simp only[c2];omega
 have:m.zE.length*100≤14*100:=Ke 100 (by omega);simp only[zTR,S3,c3];omega
end
end Go.Pl

namespace Go.Pl
open Go Go.Ab Go.Wk Go.Pc
theorem zRo{F:Nat→List Int}{a b:Nat}(h:b≤a):(gl a F).take b=gl b F:=by
 apply K8;intro i;simp only[gl,Lq,Jm]
 grind
theorem zCa{α:Type}{v:List α}{b:Nat}(k:b≤v.length):zN v 0 (b:Int)=aB (v.take b):=zJn (a:=0) (Kc b) k
theorem jZ{α:Type}{l:List α}{d:α}{n:Nat}(hn:l.length=n):gl n (fun k=>l.getD k d)=l:=by subst hn;exact Hj (by simp[gl]) fun i h1 h2=>by simp[gl]at h1 ⊢;grind
theorem zAo{α:Type}{v:List α}{a:Nat}(k:a≤v.length):zN v (a:Int) (v.length:Int)=aB (v.drop a):=by rw[zJn k (Ji _),Jk (by rw[Kj];omega)]
section
variable {n D:Nat}{x:SPr}{m:zG}{T:Mx} (h:zFT n D x m T) (h1:1≤D) (h3:D≤3) (hx:Pres x) (hT:∀i,i<T.length→(T.getD i []).length=D)
 include h h3
 omit h3 in
theorem zSR:(ext n D x m T).zA.length=n+D:=by simp[ext,h.o]
 include hx hT
theorem zSS{k:Nat}(hk:k<n):(ext n D x m T).zF.getD k []=x.zF.getD k []++T.getD k []∧(x.zF.getD k []).length=n∧(T.getD k []).length=D:=by
 have ho:=h.o;have el:=uO n (by have:=h.hn;omega);have ht:=h.t;refine⟨?_,?_,hT k (by omega)⟩
 ·rw[show(ext n D x m T).zF.getD k []=exP n D x T k from by simp[ext,gl,show k<n+D by omega],exP,if_pos hk]
 ·have:=kX hx (show k<x.zA.length by omega);omega
theorem zST{k:Nat}(hk:k<n):(ext n D x m T).zB.getD k []=gl (n+D-1-k) (exF n x m T k):=by
 have _:=hx;have _:=hT;have _:=h3;have _:=h.o;rw[show(ext n D x m T).zB.getD k []=exC n D x m T k from by simp[ext,gl,show k<n+D by omega],exC,if_pos hk]
 omit h3 in
theorem zSU{k j:Nat}(hk:k<n)(hj:j<n-1-k):exF n x m T k j=(x.zB.getD k []).getD j []++T.getD (base n k+j) []∧((x.zB.getD k []).getD j []).length=n∧(T.getD (base n k+j) []).length=D:=by have ho:=h.o;have hb:=zCr n (by have:=h.hn;omega) k hk;have ht:=h.t;refine⟨by rw[exF,if_pos hj],?_,hT _ (by omega)⟩;have:=jR hx (show k<x.zA.length by omega) (show j+k+1<x.zA.length by omega);omega
theorem zWu{k j:Nat}(hk:k<n)(hj:j<D):exF n x m T k (n-1-k+j)=J1 n 0++(m.zE.getD k []).getD j []∧((m.zE.getD k []).getD j []).length=D:=by
 have _:=hx;have _:=hT;have _:=h3;refine⟨by rw[exF,if_neg (by omega),show n-1-k+j-(n-1-k)=j from by omega],((h.m.mat k hk).2 j hj).1⟩
 include h1
theorem zMG(ho:x.zA.length=n):f_E (ext n D x m T) (n:Int)=aB x:=by
 have hn:=h.hn;have _:=h1;have hol:=zSR h;have e0:(ext n D x m T).zA.take n=x.zA:=by simp[ext,←ho]
 unfold f_E;rw[zCa (by omega),bs,e0,tD (by omega),bs];have gF:∀k,k<n→zC (zNi (n:Int) (gl (n-1-k) (exF n x m T k))) ([],0)=aB (x.zB.getD k []):=fun k hk=>by
  have gC:=jQ hx (show k<x.zA.length by omega);rw[zBY (body:=zNi (n:Int) (gl (n-1-k) (exF n x m T k))) (n-1-k) (fun j=>(x.zB.getD k []).getD j []) (fun j acc hj ha=>by
   obtain⟨e1,e2,e3⟩:=zSU h hx hT hk hj;unfold zNi;simp only
   rw[yW,yS hj,zJ,zFS hj,bs,e1,zCa (by rw[Jb];omega),bs,Jp e2,tD (by omega),bs,zX (by rw[Jh];omega),bs,zD (by omega) (by omega),bs,cs]) (fun acc=>by
   unfold zNi;simp only
   rw[yW,uU,zK])]
  exact congrArg aB (jZ (by omega))
 have:=zP (body:=zKA (ext n D x m T) (n:Int)) (r:=(x.zF,x.zB)) (fun k=>(gl k (fun k=>x.zF.getD k []),gl k (fun k=>x.zB.getD k []),(k:Int))) n (fun k hk=>by
  obtain⟨e1,e2,e3⟩:=zSS h h3 hx hT hk;unfold zKA;simp only
  rw[yS hk,zJ,zT [] (by simp[ext];omega),bs,e1,zCa (by rw[Jb];omega),bs,Jp e2,tD (by omega),bs,zX (by rw[yW,Jh];omega),bs,zT [] (by simp[ext];omega),bs,zD (by omega) (by omega),bs,zD (by omega) (by omega),bs,zST h h3 hx hT hk,show(n:Int)-1-(k:Int)=((n-1-k:Nat):Int)from by omega,zCa (by rw[yW];omega),bs,zRo (by omega),gF k hk,bs,zX (by rw[yW,Jh];omega),bs,zD (by omega) (by omega),bs,cs,vC (F:=fun k=>x.zF.getD k []),vC (F:=fun k=>x.zB.getD k [])]) (by
  unfold zKA;simp only
  rw[uU,zK,jZ (by have:=h.p;omega),jZ (by have:=h.c;omega)])
 rw[show zC (zKA (ext n D x m T) (n:Int)) ([],[],0)=_ from this,bs]
theorem zHN(ho:x.zA.length=n):f_t (ext n D x m T) (n:Int)=aB (x,m,T):=by
 have hn:=h.hn;have hol:=zSR h;have el:=uO n (by omega);have ht:=h.t;have bn:=h.m.len;unfold f_t;have fg:at0 (ext n D x m T).zA n=m.Prime:=by simp only[ext,at0,J2];rw[Ja (by rw[h.o];omega),h.o,Ka,if_pos (by omega)];rfl
 rw[yK (by omega),bs,fg,hol,zD (by omega) (by omega),bs,show((n+D:Nat):Int)-(n:Int)=(D:Int)from by omega];rw[zBY (body:=zQl (ext n D x m T) (n:Int)) n (fun k=>T.getD k []) (fun k acc hk ha=>by
  obtain⟨e1,e2,e3⟩:=zSS h h3 hx hT hk;unfold zQl;simp only
  rw[yS hk,zJ,zT [] (by simp[ext];omega),bs,e1,zAo (by rw[Jb];omega),bs,K9 e2,tD (by omega),bs,zX (by rw[Jh];omega),bs,zD (by omega) (by omega),bs,cs]) (fun acc=>by
  unfold zQl;simp only
  rw[uU,zK]),bs]
 have gF:∀k,k<n→ ∀s:(List (List (List Int)))×(List (List Int))×Int,s.2.2=(k:Int)→zC (zKB (n:Int) s (gl (n+D-1-k) (exF n x m T k))) (gl (base n k) (fun j=>T.getD j []),[],0)=aB (gl (base n (k+1)) (fun j=>T.getD j []),m.zE.getD k []):=fun k hk s hs=>by
  have hA:=h.m.mat k hk;have hb:=zCr n (by omega) k hk;have hbs:=zCq n (by omega) k hk;refine(fun e=>by rw[Nat.zero_min,Uz,Nat.zero_sub]at e;exact e:zC (zKB (n:Int) s (gl (n+D-1-k) (exF n x m T k))) (gl (base n k+min 0 (n-1-k)) (fun j=>T.getD j []),gl (0-(n-1-k)) (fun j=>(m.zE.getD k []).getD j []),((0:Nat):Int))=aB (gl (base n (k+1)) (fun j=>T.getD j []),m.zE.getD k [])→_) (zP (body:=zKB (n:Int) s (gl (n+D-1-k) (exF n x m T k))) (fun q=>(gl (base n k+min q (n-1-k)) (fun j=>T.getD j []),gl (q-(n-1-k)) (fun j=>(m.zE.getD k []).getD j []),(q:Int))) (n+D-1-k) (fun q hq=>?_) ?_)
  ·unfold zKB
   simp only
   rw[yW,yS hq,zJ,zFS hq,bs,hs,zD (by omega) (by omega),bs,zD (by omega) (by omega),bs]
   by_cases g:q<n-1-k
   ·obtain⟨e1,e2,e3⟩:=zSU h hx hT hk g
    rw[show decide ((k:Int)+1+(q:Int)<(n:Int))=aD from by simp;omega,zJ,e1,zAo (by rw[Jb];omega),bs,K9 e2,tD (by omega),bs,zX (by rw[yW,Jh];omega),bs,zD (by omega) (by omega),bs,cs,show min q (n-1-k)=q from by omega,show min (q+1) (n-1-k)=q+1 from by omega,show q-(n-1-k)=0 from by omega,show q+1-(n-1-k)=0 from by omega,vC (F:=fun j=>T.getD j [])];rfl
   ·obtain⟨e1,e2⟩:=zWu h h3 hx hT hk (show q-(n-1-k)<D by omega)
    rw[show n-1-k+(q-(n-1-k))=q from by omega]at e1;rw[show decide ((k:Int)+1+(q:Int)<(n:Int))=aE from by simp;omega,zK,e1,zAo (by rw[Jb,Ju];omega),bs,K9 (by simp),tD (by omega),bs,zX (by rw[yW,Jh];omega),bs,zD (by omega) (by omega),bs,cs,show min q (n-1-k)=n-1-k from by omega,show min (q+1) (n-1-k)=n-1-k from by omega,show q+1-(n-1-k)=q-(n-1-k)+1 from by omega,vC (F:=fun j=>(m.zE.getD k []).getD j [])]
  ·unfold zKB
   simp only
   rw[yW,uU,zK,show min (n+D-1-k) (n-1-k)=n-1-k from by omega,show n+D-1-k-(n-1-k)=D from by omega,jZ hA.1,hbs]
 have:=zP (body:=zKC (ext n D x m T) (n:Int)) (r:=(m.zE,T)) (fun k=>(gl k (fun k=>m.zE.getD k []),gl (base n k) (fun j=>T.getD j []),(k:Int))) n (fun k hk=>by
  unfold zKC;simp only
  rw[yS hk,zJ,zT [] (by simp[ext];omega),bs,zST h h3 hx hT hk,gF k hk _ rfl,bs];simp only
  rw[zX (by rw[yW,Jh];omega),bs,zD (by omega) (by omega),bs,cs,vC (F:=fun k=>m.zE.getD k [])]) (by
  unfold zKC;simp only
  rw[uU,zK,jZ bn,jZ ht])
 rw[show base n 0=n from el.2.2]at this;rw[show zC (zKC (ext n D x m T) (n:Int)) ([],(Jn n).map (fun k=>T.getD k []),0)=_ from this,bs,zMG h h1 h3 hx hT ho,bs,←h.m.d]
end
theorem zGg{m:zG}{n D:Nat}(h:MOk n m D)(hn:n≤14):zNo m m=aB aD:=by
 have hl:=h.len;have h3:=h.d3;unfold zNo;rw[beq_self_eq_true,zJ,beq_self_eq_true,zJ,zBz (by omega) (fun M hM=>by obtain⟨i,hi,rfl⟩:=qD (d:=[]) hM;have hA:=(h.mat i (by omega)).small (by omega);exact⟨by omega,fun r hr=>by have:=hA.2 r hr;omega⟩),bs,beq_self_eq_true]
theorem zLR{x:SPr}(h:Pres x):Md x:=by
 have h6:=h.os.1;have eO:=h.pl;have gC:=h.cl;refine⟨by omega,⟨by omega,fun r hr=>?_⟩,by omega,fun M hM=>?_⟩
 ·obtain⟨i,hi,rfl⟩:=qD (d:=[]) hr
  have:=kX h (show i<x.zA.length by omega);omega
 ·obtain⟨i,hi,rfl⟩:=qD (d:=[]) hM
  have gQ:i<x.zA.length:=by omega
  have:=jQ h gQ;refine⟨by omega,fun r hr=>?_⟩;obtain⟨j,hj,rfl⟩:=qD (d:=[]) hr;have:=jR h gQ (show j+i+1<x.zA.length by omega);omega
end Go.Pl

namespace Go.Pl
open Go Go.Ab Go.Wk Go.Pc
end Go.Pl

namespace Go.Pl
open Go Go.Ab Go.Wk Go.Pc
theorem VOk.like{n D:Nat}{p:Int}{U:Mx}(h:VOk n p D U)(hn:n≤100)(hD:D≤100){W:Mx}:zHU U W=aB (U==W):=by
 refine zAF (by have:=h.1;omega) fun r hr=>?_
 obtain⟨i,hi,rfl⟩:=Jv.1 hr;have:=(h.2 i (by have:=h.1;omega)).1;rw[J2,J5 hi,La]at this;omega
end Go.Pl

namespace Go.Pl
open Go Go.Ab Go.Wk Go.Pc
end Go.Pl

namespace Go.Pl
open Go Go.Ab Go.Wk Go.Pc
section
variable {x:SPr}{m:zG}{D:Nat} (h:IsM x m D)
 include h
 omit h in
theorem sZ.vo{T:Mx}(hT:sZ x m D T):VOk (base x.zA.length x.zA.length) m.Prime D T:=⟨hT.1,fun i hi=>hT.2 i (by rw[hT.1];exact hi)⟩
theorem zMH{A B:Mx}(hA:Coc x m D A)(hB:Coc x m D B):zPL x m A B=aB 0∧ ∀L:List Mx,L.length≤1000→(∀t,t∈L↔t=A∨t=B)→f_P x m L=aB 0:=by
 have gL:=h.gr.2.2;have el:=uO x.zA.length (by have:=gL.n6;omega);have fj:A.length≤1048576:=by have:=hA.1.1;omega
 have bx:B.length≤1048576:=by have:=hB.1.1;omega
 have one:∀{T:Mx},Coc x m D T→zPD x m T=aB aD∧zPI x m T=aB aD:=fun{T} hT=>by
  have hE:=zOH gL h.ok hT.1;constructor
  ·rcases kO gL h.ok (T:=T) (by have:=hT.1.1;omega)with⟨e,_⟩|⟨_,k⟩
   ·exact e
   ·exact absurd hT.1 k
  ·rcases zHL h.gr.1 (hE.b h.ok) hT.1.2 (Mv.self h.ok) h.gr.2.1 h.rel with⟨e,_⟩|⟨_,k⟩
   ·exact e
   ·exact absurd hT.2 k
 have hs:zPL x m A B=aB 0:=by unfold zPL;simp only[h.sp,(one hA).1,(one hA).2,(one hB).1,(one hB).2,bs,J6,zK]
 refine⟨hs,fun L hL hm=>?_⟩;obtain⟨c,e1,e2,_⟩:=zME h.spres h.smod fj bx hL hm;rw[hs]at e1;rw[e2,←Hk.inj e1]
end
end Go.Pl

namespace Go.Pl
open Go Go.Ab Go.Wk Go.Pc
end Go.Pl

namespace Go.Pl
open Go Go.Ab Go.Wk Go.Pc
end Go.Pl

namespace Go.Pl
open Go Go.Ab Go.Wk Go.Pc
end Go.Pl

namespace Go.Pl
open Go Go.Ab Go.Wk Go.Pc
section
variable {x:SPr}{m:zG}{D:Nat} (h:IsM x m D)
 include h
theorem IsM.order:∃N:Nat,pr x.zA x.zA.length=(N:Int)∧1≤N∧N≤729∧zSp x=aB ((N:Int),0):=by
 have h6:=h.gr.1.os.1;obtain⟨N,N1,N2,_,_,_⟩:=zEm h.gr.2.2;have hp:=zBp (os:=x.zA) (i:=x.zA.length) (fun j hj=>h.gr.1.os.2 j hj);refine⟨N,N1,by omega,N2,?_⟩;unfold zSp;rcases vU (x:=x) (by omega)with⟨e,_⟩|⟨_,k⟩
 ·rw[e,bs,J6,zK,zBq h.gr.1.os,bs]
  rcases zL3 (os:=x.zA) (i:=x.zA.length) (fun j hj=>h.gr.1.os.2 j hj)with g|g
  ·rw[g.1,N1]
  ·omega
 ·exact absurd h.gr.2.2 k
end
end Go.Pl

namespace Go.Pl
open Go Go.Ab Go.Wk Go.Pc
theorem zEU{n i:Nat}{f:Nat→Mx}(hi:i<n):(gl n f).getD i []=f i:=by simp[gl,hi]
end Go.Pl

namespace Go.Pl
open Go Go.Ab Go.Wk Go.Pc
end Go.Pl

namespace Go.Pl
open Go Go.Ab Go.Wk Go.Pc
end Go.Pl

namespace Go.Pl
open Go Go.Ab Go.Wk Go.Pc
end Go.Pl

namespace Go.Pl
open Go Go.Ab Go.Wk Go.Pc
end Go.Pl

namespace Go.Pl
open Go Go.Ab Go.Wk Go.Pc
end Go.Pl

namespace Go.Pl
open Go Go.Ab Go.Wk Go.Pc
end Go.Pl

namespace Go.Pl
open Go Go.Ab Go.Wk Go.Pc
end Go.Pl

namespace Go.Pl
open Go Go.Ab Go.Wk Go.Pc
end Go.Pl

namespace Go.Pl
open Go Go.Ab Go.Wk Go.Pc
end Go.Pl

namespace Go.Pl
open Go Go.Ab Go.Wk Go.Pc
end Go.Pl

namespace Go.Pl
open Go Go.Ab Go.Wk Go.Pc
end Go.Pl

namespace Go.Pl
open Go Go.Ab Go.Wk Go.Pc
section
variable {D:Nat}{x:SPr}{m:zG}{T:Mx} (h:Pres x) (hE:ExB x.zA.length D x m T) (hT:∀i,i<T.length→Row m.Prime D (T.getD i []))
 include h hE hT
theorem zOR{k:Nat}(hk:k<x.zA.length)(hc:LC (exx D x m T) k):pw (PM m.Prime D) (idM D) (m.zE.getD k []) (at0 x.zA k).toNat=aM m D (k+1) (lvl x k).w∧
  ∀i,k<i→i<x.zA.length→PM m.Prime D (m.zE.getD i []) (m.zE.getD k [])=PM m.Prime D (m.zE.getD k []) (aM m D (k+1) ((lvl x k).cs.getD (i-(k+1)) [])):=by
 have hp:=hE.m.p.pos;have hl:=wU h hE hT;have hA:=hE.m.mat k hk;have hw:=(zOr h hk).2;have ht:=zEk h hE hT hk;refine⟨zEc (D:=D) (pwM h hE hT hk).1 (zO9 h hE hT).1 fun q hq=>?_,fun i hi gF=>zEc (D:=D) (by rw[wP,(hE.m.mat i gF).1]) (by rw[wP,hA.1]) fun q hq=>?_⟩
 ·have hu:Row m.Prime D (xL D q):=vY (by omega)
  have e:=hc.c4 (x.zA.length+q) (by omega) (by omega);rw[hl,show x.zA.length+D-(k+1)=x.zA.length-(k+1)+D from by omega,show x.zA.length+q-(k+1)=x.zA.length-(k+1)+q from by omega,zGa hq,zD2 h hE hT hk,zD6 h hE hT hk _ hu,zJg h hE hT hk,zCu hA (by omega) hu,zJj h hE hT _ (k+1) (by omega) _ _ _ hu hw ht,zE6 h hE hT _ (k+1) (by omega) _ _ _ hw ht (uN (by omega)),zA0 (v:=T.getD k [])]at e;have e2:=(zLJ (uN (by omega)) (uN (by omega))).1 (U2 e);rw[zEj hq (pwM h hE hT hk),zEj hq (zO9 h hE hT)]at e2;exact e2
 ·have mZ:=hE.m.mat i gF
  have hq1:=hA.2 q hq;have pQ:=mZ.2 q hq;have fe:=(tX h hk (show k+1≤i by omega) gF).2.2;have ht:=zJk h hE hT (i:=k) (j:=i) hi gF;have e:=hc.c2 i (by omega) (by omega) (x.zA.length+q) (by omega) (by omega);rw[zLK h hE hT hk (by omega) (by omega),zLL h hE hT hk (by omega) gF,zOA h hE hT hk gF (by omega) (by omega),U3,zD5 h hE hT hk pQ,zJj h hE hT _ (k+1) (by omega) _ _ _ hq1 fe ht,zE6 h hE hT _ (k+1) (by omega) _ _ _ fe ht (uN (by omega)),zA0]at e;have e2:=(zLJ (uN (by omega)) (uN (by omega))).1 (U2 e);rw[zAy (by rw[mZ.1];exact hq),zAy (by rw[hA.1];exact hq)];exact e2.symm
theorem zOS(hc:∀k,k<x.zA.length→LC (exx D x m T) k):zCY x m D:=by
 have gc:=hE.m.len;intro i hi;obtain⟨r1,r2⟩:=zOR h hE hT hi (hc i hi);refine⟨?_,fun j hj fO=>?_⟩
 ·rw[zEg,(zOK h (zLP h hi) hi).1,zHE _ _ _ (by rw[Kj,(zLP h hi).1.1];omega)]
  exact r1
 ·have hx:=zOL h (show i<j by omega) fO
  have e:=r2 j (by omega) fO;have gC:=(h.tl i hi).2.1;rw[show(x.zB.getD i []).getD (j-(i+1)) []=lcj x i j from rfl,(zOK h hx hi).1,zHE _ _ _ (by rw[Kj,hx.1.1];omega),e];have e3:(lvl x i).cs.getD (j-(i+1)) []=(lcj x i j).drop (i+1):=by
   have e4:∀(l:List (List Int))(n:Nat),(l.map (·.drop (i+1))).getD n []=(l.getD n []).drop (i+1):=fun l n=>by
    rw[J2,Jm,J2];cases l[n]? with
    |none=>rfl
    |some c=>rfl
   exact e4 _ _
  rw[e3];rfl
theorem zRp{k:Nat}(hk:k+1≤x.zA.length){c:Vec}(hcV:V (suf (exx D x m T) (k+1)) c)(q:Nat):(pw (mul (suf (exx D x m T) (k+1))) (zeros (suf (exx D x m T) (k+1)).length) c q).take (x.zA.length-(k+1))=pw (mul (suf x (k+1))) (zeros (suf x (k+1)).length) (c.take (x.zA.length-(k+1))) q:=by have ok:=zAb h hE hT (k:=k+1) (by omega);have:=zD3 (S:=V (suf (exx D x m T) (k+1))) (n:=mul (suf x (k+1))) (·.take (x.zA.length-(k+1))) (fun a b=>yU ok) (zCv h hE hT (x.zA.length-(k+1)) (k+1) (by omega)) [c] [(q:Int)] (zeros (suf (exx D x m T) (k+1)).length) (by simp[hcV]) (xR ok);rw[zAL h hE hT hk,Jp (zM _),←zAL h hE hT hk]at this;rw[show zeros (suf x (k+1)).length=zeros (x.zA.length-(k+1))from by rw[yM]];exact this
theorem zLS{k:Nat}(hk:k<x.zA.length):∀(q:Nat){v:Vec},V (suf (exx D x m T) (k+1)) v→(iter q (sig (suf (exx D x m T) (k+1)) (lvl (exx D x m T) k)) v).take (x.zA.length-(k+1))=iter q (sig (suf x (k+1)) (lvl x k)) (v.take (x.zA.length-(k+1)))∧V (suf (exx D x m T) (k+1)) (iter q (sig (suf (exx D x m T) (k+1)) (lvl (exx D x m T) k)) v)
 |0,v,hv=>⟨rfl,hv⟩
 |q+1,v,hv=>by have hp:=zD7 h hE hT hk (zCv h hE hT (x.zA.length-(k+1)) (k+1) (by omega)) hv;have hV:=zOJ h hE hT hk hv;have ih:=zLS hk q hV;rw[hp]at ih;exact ih
theorem zRq{k:Nat}(hk:k<x.zA.length)(hc:LC (exx D x m T) k):LC x k:=by
 have hp:=hE.m.p.pos;have hl:=wU h hE hT;have mY:Row m.Prime D (zeros D):=tY (by omega);have ok:=zAb h hE hT (k:=k+1) (by omega);have eu:=zCv h hE hT (x.zA.length-(k+1)) (k+1) (by omega);have bK:=fun{v:Vec} hv=>zD7 h hE hT hk eu (v:=v) hv
 have vx:∀{y u:Vec},V (suf x (k+1)) y→Row m.Prime D u→V (suf (exx D x m T) (k+1)) (y++u):=fun hy hu=>(zBZ h hE hT (x.zA.length-(k+1)) (k+1) (by omega) _).2 ⟨_,_,rfl,hy,hu⟩
 have tk:∀{y u:Vec},V (suf x (k+1)) y→(y++u).take (x.zA.length-(k+1))=y:=fun hy=>Jp (tW h (by omega) hy)
 have cs:∀j,k+1≤j→j<x.zA.length→ ∃u,Row m.Prime D u∧(lvl (exx D x m T) k).cs.getD (j-(k+1)) []=(lvl x k).cs.getD (j-(k+1)) []++u∧V (suf x (k+1)) ((lvl x k).cs.getD (j-(k+1)) []):=fun j h1 h2=>
  ⟨_,zJk h hE hT (i:=k) (j:=j) (by omega) h2,zLL h hE hT hk h1 h2,(tX h hk h1 h2).2.2⟩
 have hw:=(zOr h hk).2;have ht:=zEk h hE hT hk;have un:∀j,k+1≤j→j<x.zA.length→xL ((exx D x m T).zA.length-(k+1)) (j-(k+1))=xL (x.zA.length-(k+1)) (j-(k+1))++zeros D∧V (suf x (k+1)) (xL (x.zA.length-(k+1)) (j-(k+1))):=fun j h1 h2=>by
  refine⟨by rw[hl,show x.zA.length+D-(k+1)=x.zA.length-(k+1)+D from by omega,zOI (by omega)],?_⟩;have:=zBP (h.okAt (k:=k+1) (by omega)) (j:=j-(k+1)) (by rw[yM];omega)
  rwa [yM]at this
 refine⟨fun j h1 h2=>?_,fun i h1 h2 j h3 h4=>?_,?_,fun j h1 h2=>?_⟩
 ·obtain⟨u,hu,e1,hv⟩:=cs j h1 h2
  have bi:=(zJT h hk h1 h2).2;have e:=congrArg (·.take (x.zA.length-(k+1))) (hc.c1 j h1 (by omega));have hTj:=zEk h hE hT h2;rw[e1,zHF h hE hT (show k≤j by omega) h2,zBu h hE hT h2,zRp h hE hT (by omega) (vx hv hu),tk hv,bK (vx bi hTj),tk bi]at e;exact e
 ·obtain⟨u,hu,e1,hv⟩:=cs j (by omega) h4
  obtain⟨u',fR,e1',eY⟩:=cs i h1 h2;have bv:=(zL6 h hk h1 h3 h4).2.2;have hTi:=zJk h hE hT (i:=i) (j:=j) (by omega) h4;have e:=congrArg (·.take (x.zA.length-(k+1))) (hc.c2 i h1 (by omega) j h3 (by omega));rw[e1,e1',zHG h hE hT (show k≤i by omega) (by omega) h4,eu _ _ (vx hv hu) (vx eY fR),tk hv,tk eY,eu _ _ (vx eY fR) (zOJ h hE hT hk (vx bv hTi)),tk eY,bK (vx bv hTi),tk bv]at e;exact e
 ·have e:=congrArg (·.take (x.zA.length-(k+1))) hc.c3
  rw[zJg h hE hT hk,bK (vx hw ht),tk hw]at e;exact e
 ·obtain⟨e1,hv⟩:=un j h1 h2
  have e:=congrArg (·.take (x.zA.length-(k+1))) (hc.c4 j h1 (by omega));obtain⟨i1,i2⟩:=zLS h hE hT hk (lvl (exx D x m T) k).o.toNat (vx hv mY);rw[e1,zJg h hE hT hk,eu _ _ (vx hw ht) i2,tk hw,i1,tk hv,eu _ _ (vx hv mY) (vx hw ht),tk hv,tk hw,zD2 h hE hT hk]at e;exact e
theorem zRr(hc:xX (suf (exx D x m T) 0)):xX (suf x 0)∧zCY x m D:=by
 have hl:=wU h hE hT;have bp:∀k,k<x.zA.length→LC (exx D x m T) k:=fun k hk=>((kK (zD1 h hE hT) (by omega)).1 (zBe hc k)).2
 refine⟨?_,zOS h hE hT bp⟩;have key:∀(d k:Nat),k+d=x.zA.length→xX (suf x k):=by
  intro d
  induction d with
  |zero=>intro k hk;rw[vN (x:=x) (by omega)];simp only[xX]
  |succ d ih=>exact fun k hk=>(kK h.w (by omega)).2 ⟨ih (k+1) (by omega),zRq h hE hT (by omega) (bp k (by omega))⟩
 exact key x.zA.length 0 (by omega)
end
end Go.Pl

namespace Go.Pl
open Go Go.Ab Go.Wk Go.Pc
def Ntl(e:SPr)(i:Nat):Prop:=∀k,k<i→ ∀q,i≤q→q<e.zA.length→ ∀c,c<i→at0 ((e.zB.getD k []).getD (q-(k+1)) []) c=0
def Flt(e:SPr)(i:Nat):Prop:=∀q,i≤q→q<e.zA.length→(at0 e.zA q=at0 e.zA i∧(∀c,c<e.zA.length→at0 (e.zF.getD q []) c=0)∧ ∀j,q+1≤j→j<e.zA.length→(e.zB.getD q []).getD (j-(q+1)) []=vD e.zA.length j)
section
variable {e:SPr} (h:Pres e) {i:Nat} (hi:i≤e.zA.length)
 include h hi
theorem zGh:IsB (f_M e (i:Int)) (Ntl e i):=by
 have h9:=h.os.1;have gC:=h.cl;have inner:∀k,k<i→(zC (zK8 e (i:Int) (k:Int)) (i:Int)=aB (.inl ())∧ ∀q,i≤q→q<e.zA.length→ ∀c,c<i→at0 ((e.zB.getD k []).getD (q-(k+1)) []) c=0)∨(zC (zK8 e (i:Int) (k:Int)) (i:Int)=aB (.inr aE)∧ ¬ ∀q,i≤q→q<e.zA.length→ ∀c,c<i→at0 ((e.zB.getD k []).getD (q-(k+1)) []) c=0):=fun k hk=>by
  have hl:=jQ h (show k<e.zA.length by omega);rcases chk (body:=zK8 e (i:Int) (k:Int)) e.zA.length i hi (fun q=> ∀c,c<i→at0 ((e.zB.getD k []).getD (q-(k+1)) []) c=0) (fun _=>aE) (fun q hq eC _=>by
   have hr:=jR h (show k<e.zA.length by omega) (show q-(k+1)+k+1<e.zA.length by omega);unfold zK8;rw[yS eC,zJ,zT [] (by omega),bs,zD (by omega) (by omega),bs,zD (by omega) (by omega),bs,show(q:Int)-(k:Int)-1=((q-(k+1):Nat):Int)from by omega,zT [] (by omega),bs,zCa (by omega),bs];have hz:=zFR (v:=((e.zB.getD k []).getD (q-(k+1)) []).take i) (by rw[K7];omega);have tv:(((e.zB.getD k []).getD (q-(k+1)) []).take i).length=i:=by rw[K7];omega
   refine wT (hz.iff ⟨fun g c hc=>?_,fun g c hc=>?_⟩) (by omega) rfl
   ·have:=g c (by omega)
    rwa [kM hc]at this
   ·rw[tv]at hc
    rw[kM hc];exact g c hc) (by
   unfold zK8;rw[uU,zK])with⟨g1,g2⟩|⟨q,hq,eC,g1,g2⟩
  ·exact .inl ⟨g1,g2⟩
  ·exact .inr ⟨g1,fun g=>g2 (g q hq eC)⟩
 refine tP (body:=zQk e (i:Int)) i _ rfl (fun k hk _=>?_) ?_
 ·unfold zQk
  rw[yS hk,zJ];rcases inner k hk with⟨g1,g2⟩|⟨g1,g2⟩
  ·rw[g1,bs]
   simp only
   rw[zD (by omega) (by omega),bs,cs];exact .inl ⟨rfl,g2⟩
  ·rw[g1,bs]
   exact .inr ⟨rfl,g2⟩
 ·unfold zQk
  rw[uU,zK]
theorem zMI(gQ:i<e.zA.length):IsB ((zC (zNh e (i:Int)) (i:Int)).bind fun r=>match r with|.inl _=>aB aD|.inr r=>aB r) (Flt e i):=by
 have h9:=h.os.1;have gC:=h.cl;have eO:=h.pl;have inner:∀q,q<e.zA.length→(zC (zK9 e (q:Int) (e.zB.getD q [])) 0=aB (.inl ())∧ ∀j,q+1≤j→j<e.zA.length→(e.zB.getD q []).getD (j-(q+1)) []=vD e.zA.length j)∨(zC (zK9 e (q:Int) (e.zB.getD q [])) 0=aB (.inr aE)∧ ¬ ∀j,q+1≤j→j<e.zA.length→(e.zB.getD q []).getD (j-(q+1)) []=vD e.zA.length j):=fun q hq=>by
  have hl:=jQ h hq;rcases chk (body:=zK9 e (q:Int) (e.zB.getD q [])) (e.zB.getD q []).length 0 (Kc _) (fun j=>(e.zB.getD q []).getD j []=vD e.zA.length (q+1+j)) (fun _=>aE) (fun j _ hj _=>by
   have hr:=jR h hq (show j+q+1<e.zA.length by omega);unfold zK9;rw[yS hj,zJ,zT [] hj,bs,zD (by omega) (by omega),bs,zD (by omega) (by omega),bs,show(q:Int)+1+(j:Int)=((q+1+j:Nat):Int)from by omega,kS (by omega) (by omega),bs];refine wT (o:=f_T ((e.zB.getD q []).getD j []) (vD e.zA.length (q+1+j))) ?_ (by omega) rfl;rw[zBs (by omega)];exact IsB.of_bool (by rw[beq_iff_eq])) (by
   unfold zK9;rw[uU,zK])with⟨g1,g2⟩|⟨j,_,hj,g1,g2⟩
  ·refine .inl ⟨g1,fun j hj fO=>?_⟩
   have:=g2 (j-(q+1)) (by omega) (by omega)
   rwa [show q+1+(j-(q+1))=j from by omega]at this
  ·refine .inr ⟨g1,fun g=>g2 ?_⟩
   have:=g (q+1+j) (by omega) (by omega)
   rwa [show q+1+j-(q+1)=j from by omega]at this
 have hz:∀q,q<e.zA.length→IsB (f_V (e.zF.getD q [])) (∀c,c<e.zA.length→at0 (e.zF.getD q []) c=0):=fun q hq=>by have hl:=kX h hq;refine(zFR (v:=e.zF.getD q []) (by omega)).iff ?_;rw[hl]
 rcases chk (body:=zNh e (i:Int)) e.zA.length i hi (fun q=>at0 e.zA q=at0 e.zA i∧(∀c,c<e.zA.length→at0 (e.zF.getD q []) c=0)∧ ∀j,q+1≤j→j<e.zA.length→(e.zB.getD q []).getD (j-(q+1)) []=vD e.zA.length j) (fun _=>aE) (fun q hq eC _=>by
  unfold zNh;rw[yS eC,zJ,yK eC,bs,yK gQ,bs]
  by_cases g:at0 e.zA q=at0 e.zA i
  ·rw[show(at0 e.zA q != at0 e.zA i)=aE from zAC g,zK,zT [] (by omega),bs]
   rcases hz q eC with⟨z1,z2⟩|⟨z1,z2⟩
   ·rw[z1,bs,J6,zK,zT [] (by omega),bs]
    rcases inner q eC with⟨g1,g2⟩|⟨g1,g2⟩
    ·rw[g1,bs]
     simp only
     rw[zD (by omega) (by omega),bs,cs];exact .inl ⟨rfl,g,z2,g2⟩
    ·rw[g1,bs]
     exact .inr ⟨rfl,fun k=>g2 k.2.2⟩
   ·rw[z1,bs,Jx,zJ]
    exact .inr ⟨rfl,fun k=>z2 k.2.1⟩
  ·rw[show(at0 e.zA q != at0 e.zA i)=aD from zAx g,zJ]
   exact .inr ⟨rfl,fun k=>g k.1⟩) (by
  unfold zNh;rw[uU,zK])with⟨g1,g2⟩|⟨q,hq,eC,g1,g2⟩
 ·rw[g1,bs];exact .inl ⟨rfl,g2⟩
 ·rw[g1,bs];exact .inr ⟨rfl,fun g=>g2 (g q hq eC)⟩
theorem zKq(gQ:i<e.zA.length):IsB ((zC (zNk e (i:Int)) (i:Int)).bind fun r=>match r with|.inl _=>aB aD|.inr r=>aB r) (Flt e i):=by
 have h9:=h.os.1;have gC:=h.cl;have eO:=h.pl;have inner:∀q,q<e.zA.length→(zC (zKD e (q:Int)) ((q+1:Nat):Int)=aB (.inl ())∧ ∀j,q+1≤j→j<e.zA.length→(e.zB.getD q []).getD (j-(q+1)) []=vD e.zA.length j)∨(zC (zKD e (q:Int)) ((q+1:Nat):Int)=aB (.inr aE)∧ ¬ ∀j,q+1≤j→j<e.zA.length→(e.zB.getD q []).getD (j-(q+1)) []=vD e.zA.length j):=fun q hq=>by
  have hl:=jQ h hq;rcases chk (body:=zKD e (q:Int)) e.zA.length (q+1) (by omega) (fun j=>(e.zB.getD q []).getD (j-(q+1)) []=vD e.zA.length j) (fun _=>aE) (fun j hj fO _=>by
   have hr:=jR h hq (show j-(q+1)+q+1<e.zA.length by omega);unfold zKD;rw[yS fO,zJ,zT [] (by omega),bs,zD (by omega) (by omega),bs,zD (by omega) (by omega),bs,show(j:Int)-(q:Int)-1=((j-(q+1):Nat):Int)from by omega,zT [] (by omega),bs,zSQ fO (by omega),bs];refine wT (o:=f_J ((e.zB.getD q []).getD (j-(q+1)) []) (vD e.zA.length j)) ?_ (by omega) rfl;rw[zEa (by omega)];exact IsB.of_bool (by rw[beq_iff_eq])) (by
   unfold zKD;rw[uU,zK])with⟨g1,g2⟩|⟨j,hj,fO,g1,g2⟩
  ·exact .inl ⟨g1,g2⟩
  ·exact .inr ⟨g1,fun g=>g2 (g j hj fO)⟩
 have hz:∀q,q<e.zA.length→IsB (zHR (e.zF.getD q [])) (∀c,c<e.zA.length→at0 (e.zF.getD q []) c=0):=fun q hq=>by have hl:=kX h hq;refine(zHa (v:=e.zF.getD q []) (by omega)).iff ?_;rw[hl]
 rcases chk (body:=zNk e (i:Int)) e.zA.length i hi (fun q=>at0 e.zA q=at0 e.zA i∧(∀c,c<e.zA.length→at0 (e.zF.getD q []) c=0)∧ ∀j,q+1≤j→j<e.zA.length→(e.zB.getD q []).getD (j-(q+1)) []=vD e.zA.length j) (fun _=>aE) (fun q hq eC _=>by
  unfold zNk;rw[yS eC,zJ,yK eC,bs,yK gQ,bs]
  by_cases g:at0 e.zA q=at0 e.zA i
  ·rw[show(at0 e.zA q != at0 e.zA i)=aE from zAC g,zK,zT [] (by omega),bs]
   rcases hz q eC with⟨z1,z2⟩|⟨z1,z2⟩
   ·rw[z1,bs,J6,zK,zD (by omega) (by omega),bs,cs]
    rcases inner q eC with⟨g1,g2⟩|⟨g1,g2⟩
    ·rw[g1,bs]
     exact .inl ⟨rfl,g,z2,g2⟩
    ·rw[g1,bs]
     exact .inr ⟨rfl,fun k=>g2 k.2.2⟩
   ·rw[z1,bs,Jx,zJ]
    exact .inr ⟨rfl,fun k=>z2 k.2.1⟩
  ·rw[show(at0 e.zA q != at0 e.zA i)=aD from zAx g,zJ]
   exact .inr ⟨rfl,fun k=>g k.1⟩) (by
  unfold zNk;rw[uU,zK])with⟨g1,g2⟩|⟨q,hq,eC,g1,g2⟩
 ·rw[g1,bs];exact .inl ⟨rfl,g2⟩
 ·rw[g1,bs];exact .inr ⟨rfl,fun g=>g2 (g q hq eC)⟩
def Scn(e:SPr)(i:Nat):Prop:=(1≤e.zA.length-i∧e.zA.length-i≤3)∧Ntl e i∧Flt e i
theorem zJo:IsB (f_F e (i:Int)) (Scn e i):=by
 have h9:=h.os.1;unfold f_F;rw[zD (by omega) (by omega),bs,show(e.zA.length:Int)-(i:Int)=((e.zA.length-i:Nat):Int)from by omega];rcases uF ((e.zA.length-i:Nat):Int) 1 3 with⟨a,b⟩|⟨a,b⟩
 ·rw[a,bs,J6,zK]
  rcases zGh h hi with⟨c,d⟩|⟨c,d⟩
  ·rw[c,bs,J6,zK]
   exact(zMI h hi (by omega)).iff ⟨fun g=>⟨by omega,d,g⟩,fun g=>g.2.2⟩
  ·rw[c,bs,Jx,zJ]
   exact .inr ⟨rfl,fun g=>d g.2.1⟩
 ·rw[a,bs,Jx,zJ]
  exact .inr ⟨rfl,fun g=>b (by have:=g.1;omega)⟩
theorem zJp:IsB (f_G e (i:Int)) (Scn e i):=by
 have h9:=h.os.1;have hn:zNe e (i:Int)=f_M e (i:Int):=rfl;unfold f_G;rw[zD (by omega) (by omega),bs,show(e.zA.length:Int)-(i:Int)=((e.zA.length-i:Nat):Int)from by omega];rcases uZ ((e.zA.length-i:Nat):Int) 1 3 with⟨a,b⟩|⟨a,b⟩
 ·rw[a,bs,J6,zK,hn]
  rcases zGh h hi with⟨c,d⟩|⟨c,d⟩
  ·rw[c,bs,J6,zK]
   exact(zKq h hi (by omega)).iff ⟨fun g=>⟨by omega,d,g⟩,fun g=>g.2.2⟩
  ·rw[c,bs,Jx,zJ]
   exact .inr ⟨rfl,fun g=>d g.2.1⟩
 ·rw[a,bs,Jx,zJ]
  exact .inr ⟨rfl,fun g=>b (by have:=g.1;omega)⟩
end
end Go.Pl

namespace Go.Pl
open Go Go.Ab Go.Wk Go.Pc
theorem zGi{β:Type}{F:Nat→List β}{o:Nat→Nat}{d:β}(h0:o 0=0):∀{n:Nat},(∀k,k<n→o (k+1)=o k+(F k).length)→(gl n F).flatten.length=o n∧ ∀k j,k<n→j<(F k).length→(gl n F).flatten.getD (o k+j) d=(F k).getD j d
 |0,_=>⟨by rw[h0];rfl,fun k j hk=>by omega⟩
 |n+1,h=>by
  obtain⟨a,b⟩:=zGi (F:=F) (d:=d) h0 (n:=n) fun k hk=>h k (by omega)
  have hn:=h n (by omega);have mono:∀k,k≤n→o k≤o n:=fun k hk=>by
   have key:∀t k,k+t=n→o k≤o n:=by
    intro t
    induction t with
    |zero=>intro k hk;rw[show k=n by omega];exact Ji _
    |succ t ih=>
     intro k hk;have:=ih (k+1) (by omega);have:=h k (by omega);omega
   exact key (n-k) k (by omega)
  rw[zHD,Hw];refine⟨by rw[Jb,a,hn];simp,fun k j hk hj=>?_⟩;rw[J2,K4,a]
  by_cases e:k<n
  ·have h1:=h k (by omega)
   have h2:=mono (k+1) (by omega);rw[if_pos (by omega),←J2];exact b k j e hj
  ·obtain rfl:k=n:=by omega
   rw[if_neg (by omega),U3,J2];simp
def tZ(e:SPr)(i:Nat):SPr:=⟨e.zA.take i,gl i fun k=>(e.zF.getD k []).take i,gl i fun k=>gl (i-1-k) fun j=>((e.zB.getD k []).getD j []).take i⟩
def mdS(e:SPr)(i:Nat):zG:=⟨at0 e.zA i,((e.zA.length-i:Nat):Int),gl i fun k=>gl (e.zA.length-i) fun j=>((e.zB.getD k []).getD (i-1-k+j) []).drop i⟩
def tlS(e:SPr)(i:Nat):Mx:=(gl i fun k=>(e.zF.getD k []).drop i)++(gl i fun k=>gl (i-1-k) fun j=>((e.zB.getD k []).getD j []).drop i).flatten
section
variable {e:SPr} (h:Pres e) {i:Nat} (hi:i≤e.zA.length) (h6:i≤6)
 include h hi h6
theorem zOT:(tlS e i).length=base i i∧(∀k,k<i→(tlS e i).getD k []=(e.zF.getD k []).drop i)∧ ∀k j,k<i→j<i-1-k→(tlS e i).getD (base i k+j) []=((e.zB.getD k []).getD j []).drop i:=by
 have _:=h;have _:=hi;have el:=uO i (by omega);have gc:∀k,(gl (i-1-k) fun j=>((e.zB.getD k []).getD j []).drop i).length=i-1-k:=fun k=>yW
 have hb:∀k,k≤i→i≤base i k:=fun k hk=>by
  induction k with
  |zero=>rw[el.2.2];exact Ji _
  |succ k ih=>
   have:=zCq i (by omega) k (by omega);have:=ih (by omega);omega
 obtain⟨a,b⟩:=zGi (F:=fun k=>gl (i-1-k) fun j=>((e.zB.getD k []).getD j []).drop i) (o:=fun k=>base i k-i) (d:=([]:List Int)) (by show base i 0-i=0;rw[el.2.2];omega) (n:=i) (fun k hk=>by have:=zCq i (by omega) k (by omega);have:=hb k (by omega);simp only[gc];omega)
 have hg:(gl i fun k=>(e.zF.getD k []).drop i).length=i:=yW;have tw:=hb i (Ji _);refine⟨by rw[tlS,Jb,hg,a];omega,fun k hk=>?_,fun k j hk hj=>?_⟩
 ·rw[tlS,J2,Jz (by omega),←J2,wQ hk]
 ·have:=hb k (by omega)
  rw[tlS,J2,Ja (by omega),hg,←J2,show base i k+j-i=base i k-i+j by omega];have e:=b k j hk (by rw[gc];exact hj);rw[e,wQ hj]
 omit h hi h6 in
theorem zJq{v:List Int}{n:Nat}(hl:v.length=n)(hz:∀c,c<n→at0 v c=0):v=J1 n 0:=by
  refine Hj (by simp[hl]) fun c h1 h2=>?_
  have:=hz c (by omega);rw[at0,J2,J5 h1,La]at this;simp[this]
theorem zUl(hs:Scn e i):ext i (e.zA.length-i) (tZ e i) (mdS e i) (tlS e i)=e:=by
 obtain⟨⟨pO,cY⟩,hN,hF⟩:=hs;obtain⟨t1,t2,t3⟩:=zOT h hi h6;have hn:i+(e.zA.length-i)=e.zA.length:=by omega
 have hO:e.zA.take i++J1 (e.zA.length-i) (at0 e.zA i)=e.zA:=by
  refine Hj (by simp;omega) fun c h1 h2=>?_
  rw[List.getElem_append]
  by_cases g:c<i
  ·rw[dif_pos (by simp;omega)];simp
  ·rw[dif_neg (by simp;omega)]
   have:=(hF c (by omega) h2).1;rw[at0,J2,J5 h2,La]at this;simp[this]
 have hP:gl (i+(e.zA.length-i)) (exP i (e.zA.length-i) (tZ e i) (tlS e i))=e.zF:=by
  rw[hn,←jZ (d:=[]) h.pl];unfold gl;refine L4 fun k hk=>?_
  have hk:=Jq.1 hk;have hl:=kX h hk;rw[exP]
  by_cases g:k<i
  ·rw[if_pos g,t2 k g,show(tZ e i).zF.getD k []=(e.zF.getD k []).take i from wQ g]
   exact G8 _ _
  ·rw[if_neg g,hn]
   exact(zJq hl fun c hc=>(hF k (by omega) hk).2.1 c hc).symm
 have hC:gl (i+(e.zA.length-i)) (exC i (e.zA.length-i) (tZ e i) (mdS e i) (tlS e i))=e.zB:=by
  rw[hn,←jZ (d:=[]) h.cl];unfold gl;refine L4 fun k hk=>?_
  have hk:=Jq.1 hk;have hl:=jQ h hk;rw[exC]
  by_cases g:k<i
  ·rw[if_pos g,hn,←jZ (l:=e.zB.getD k []) (d:=[]) (n:=e.zA.length-1-k) (by omega)]
   unfold gl;refine L4 fun j hj=>?_
   have hj:=Jq.1 hj;have hr:=jR h hk (show j+k+1<e.zA.length by omega);rw[exF]
   by_cases g2:j<i-1-k
   ·rw[if_pos g2,t3 k j g g2,show(tZ e i).zB.getD k []=gl (i-1-k) (fun j=>((e.zB.getD k []).getD j []).take i)from zEU g,wQ g2]
    exact G8 _ _
   ·have hz:=hN k g (j+k+1) (by omega) (by omega)
    rw[show j+k+1-(k+1)=j from by omega]at hz;have e1:((e.zB.getD k []).getD j []).take i=J1 i 0:=zJq (by rw[K7];omega) fun c hc=>by rw[kM hc];exact hz c hc
    rw[if_neg g2,show(mdS e i).zE.getD k []=gl (e.zA.length-i) (fun j=>((e.zB.getD k []).getD (i-1-k+j) []).drop i)from zEU g,wQ (by omega),show i-1-k+(j-(i-1-k))=j from by omega,←e1];exact G8 _ _
  ·rw[if_neg g,hn,←jZ (l:=e.zB.getD k []) (d:=[]) (n:=e.zA.length-1-k) (by omega),unC]
   unfold gl;refine L4 fun j hj=>?_
   have hj:=Jq.1 hj;have:=(hF k (by omega) hk).2.2 (k+1+j) (by omega) (by omega);rw[show k+1+j-(k+1)=j from by omega]at this;exact this.symm
 show SPr.mk (e.zA.take i++J1 (e.zA.length-i) (at0 e.zA i)) _ _=e;rw[hO,hP,hC]
end
end Go.Pl

namespace Go.Pl
open Go Go.Ab Go.Wk Go.Pc
theorem zJr{os v:List Int}{k i:Nat}(hv:Exp os v k)(hk:k<i)(hi:i≤os.length):Exp (os.take i) (v.take i) k:=by
 obtain⟨⟨a,b⟩,c⟩:=hv;refine⟨⟨by simp[a],fun j hj=>?_⟩,fun j hj=>?_⟩
 ·rw[K7]at hj
  rw[kM (by omega),kM (by omega)];exact b j (by omega)
 ·rw[kM (by omega)];exact c j hj
theorem zLT{os:List Int}{i:Nat}:∀j,j≤i→pr (os.take i) j=pr os j
 |0,_=>rfl
 |j+1,hj=>by show pr (os.take i) j*at0 (os.take i) j=pr os j*at0 os j;rw[zLT j (by omega),kM (by omega)]
theorem zWv{os:List Int}(ho:Os os){i:Nat}(hi:i≤os.length):pr os i≤pr os os.length:=by
 have key:∀d j,j+d=os.length→pr os j≤pr os os.length:=by
  intro d
  induction d with
  |zero=>intro j hj;rw[show j=os.length by omega];exact Int.le_refl _
  |succ d ih=>
   intro j hj;have a:=ih (j+1) (by omega);have b:=zBp (os:=os) (i:=j) (fun k hk=>ho.2 k (by omega));have c:=(ho.2 j (by omega)).pos;have e:pr os (j+1)=pr os j*at0 os j:=rfl;have d:pr os j*1≤pr os j*at0 os j:=H7 (by omega) (by omega);omega
 exact key (os.length-i) i (by omega)
section
variable {e:SPr} (h:sW e) {i:Nat} (hi:i≤e.zA.length)
 include h hi
theorem zDC:sW (tZ e i)∧(tZ e i).zA.length=i:=by
 have h6:=h.n6;have h9:=h.os.1;have hl:(tZ e i).zA.length=i:=by simp[tZ];omega
 refine⟨⟨⟨⟨by omega,fun c hc=>?_⟩,by rw[hl];exact yW,by rw[hl];exact yW,fun k hk=>?_⟩,by omega,?_⟩,hl⟩
 ·rw[hl]at hc
  show Prime (at0 (e.zA.take i) c);rw[kM hc];exact h.os.2 c (by omega)
 ·rw[hl]at hk
  obtain⟨t1,t2,t3⟩:=h.tl k (by omega);have e1:(tZ e i).zF.getD k []=(e.zF.getD k []).take i:=wQ hk;have e2:(tZ e i).zB.getD k []=gl (i-1-k) (fun j=>((e.zB.getD k []).getD j []).take i):=zEU hk;refine⟨by rw[e1];exact zJr t1 hk hi,by rw[e2,yW,hl];omega,fun j hj=>?_⟩;rw[e2,yW]at hj;rw[e2,wQ hj];exact zJr (t3 j (by omega)) hk hi
 ·rw[hl]
  show pr (e.zA.take i) i≤729;rw[zLT i (Ji _)];have:=zWv h.os hi;have:=h.pr;omega
variable (hs:Scn e i)
 include hs
 omit h in
theorem zD9{k:Nat}{v:List Int}(hv:Exp e.zA v k):Row (at0 e.zA i) (e.zA.length-i) (v.drop i):=by obtain⟨⟨a,b⟩,_⟩:=hv;refine⟨by rw[Kj,a],fun c hc=>?_⟩;have hq:=(hs.2.2 (i+c) (by omega) (by omega)).1;have:=b (i+c) (by omega);rw[zJe,←hq];exact this
theorem zOU:MOk i (mdS e i) (e.zA.length-i):=by have hd:=hs.1;refine⟨h.os.2 i (by omega),rfl,hd.1,hd.2,yW,fun k hk=>?_⟩;have e1:(mdS e i).zE.getD k []=gl (e.zA.length-i) (fun j=>((e.zB.getD k []).getD (i-1-k+j) []).drop i):=zEU hk;rw[e1];refine⟨yW,fun j hj=>?_⟩;rw[wQ hj];exact zD9 hi hs ((h.tl k (by omega)).2.2 _ (by have:=(h.tl k (by omega)).2.1;omega))
theorem zKr:sZ (tZ e i) (mdS e i) (e.zA.length-i) (tlS e i):=by
 have h6:=h.n6;obtain⟨_,hl⟩:=zDC h hi;obtain⟨t1,_,_⟩:=zOT h.toPres hi (by omega);refine⟨by rw[t1,hl],fun c hc=>?_⟩;have hm:=zO2 (R:=tlS e i) hc;show Row (at0 e.zA i) _ _
 generalize (tlS e i).getD c []=r at hm ⊢
 rw[tlS,Kd]at hm;rcases hm with hm|hm
 ·obtain⟨k,hk,q⟩:=Jd.1 hm
  rw[←q];exact zD9 hi hs (h.tl k (by have:=Jq.1 hk;omega)).1
 ·obtain⟨L,hL,hm⟩:=List.mem_flatten.1 hm
  obtain⟨k,hk,rfl⟩:=Jd.1 hL;obtain⟨j,hj,q⟩:=Jd.1 hm;have hk:=Jq.1 hk;have hj:=Jq.1 hj;rw[←q];exact zD9 hi hs ((h.tl k (by omega)).2.2 j (by have:=(h.tl k (by omega)).2.1;omega))
theorem zLU(hc:xX (suf e 0)):IsM (tZ e i) (mdS e i) (e.zA.length-i)∧zFT i (e.zA.length-i) (tZ e i) (mdS e i) (tlS e i)∧ext i (e.zA.length-i) (tZ e i) (mdS e i) (tlS e i)=e:=by
 have h6:=h.n6;obtain⟨hp,hl⟩:=zDC h hi;have hm:=zOU h hi hs;have ht:=zKr h hi hs;have hx:=zUl h.toPres hi (by omega) hs;have gu:MOk (tZ e i).zA.length (mdS e i) (e.zA.length-i):=by rw[hl];exact hm
 have hE:=zOH hp gu ht;have he:exx (e.zA.length-i) (tZ e i) (mdS e i) (tlS e i)=e:=by show ext (tZ e i).zA.length _ _ _ _=e;rw[hl];exact hx
 obtain⟨b1,b2⟩:=zRr hp.toPres (hE.b gu) ht.2 (by rw[he];exact hc);rw[hl]at hE;exact⟨⟨⟨hp.toPres,b1,hp⟩,gu,b2⟩,hE,hx⟩
end
end Go.Pl

namespace Go.Pl
open Go Go.Ab Go.Wk Go.Pc
section
variable {e:SPr} (h:sW e) {i:Nat} (hi:i≤e.zA.length)
 include h hi
theorem zMJ:zC (zK7 e (i:Int)) ([],[],0)=aB ((tZ e i).zF,(tZ e i).zB):=by
 have h6:=h.n6;have eO:=h.pl;have gC:=h.cl;have:=zP (body:=zK7 e (i:Int)) (r:=((tZ e i).zF,(tZ e i).zB)) (fun k=>(gl k (fun k=>(e.zF.getD k []).take i),gl k (fun k=>gl (i-1-k) fun j=>((e.zB.getD k []).getD j []).take i),(k:Int))) i (fun k hk=>by
  have hl:=kX h.toPres (show k<e.zA.length by omega);have pA:=jQ h.toPres (show k<e.zA.length by omega);have gF:∀s:(List (List Int))×(List (List (List Int)))×Int,s.2.2=(k:Int)→zC (zNf e (i:Int) s) ([],0)=aB (gl (i-1-k) fun j=>((e.zB.getD k []).getD j []).take i):=fun s hs=>by
   refine zBY (body:=zNf e (i:Int) s) (i-1-k) (fun j=>((e.zB.getD k []).getD j []).take i) (fun j acc hj ha=>?_) fun acc=>?_
   ·have hr:=jR h.toPres (show k<e.zA.length by omega) (show j+k+1<e.zA.length by omega)
    unfold zNf;simp only[hs];rw[zD (by omega) (by omega),bs,zD (by omega) (by omega),bs,show(i:Int)-1-(k:Int)=((i-1-k:Nat):Int)from by omega,yS hj,zJ,zT [] (by omega),bs,zT [] (by omega),bs,zCa (by omega),bs,wI (by rw[K7];omega),bs,zX (by simp;omega),bs,zD (by omega) (by omega),bs,cs]
   ·unfold zNf
    simp only[hs];rw[zD (by omega) (by omega),bs,zD (by omega) (by omega),bs,show(i:Int)-1-(k:Int)=((i-1-k:Nat):Int)from by omega,uU,zK]
  unfold zK7;simp only
  rw[yS hk,zJ,zT [] (by omega),bs,zCa (by omega),bs,wI (by rw[K7];omega),bs,zX (by rw[yW,Jh];omega),bs,gF _ rfl,bs,zX (by rw[yW,Jh];omega),bs,zD (by omega) (by omega),bs,cs,vC (F:=fun k=>(e.zF.getD k []).take i),vC (F:=fun k=>gl (i-1-k) fun j=>((e.zB.getD k []).getD j []).take i)]) (by
  unfold zK7;simp only
  rw[uU,zK];rfl)
 exact this
 omit hi in
theorem zMK(gQ:i<e.zA.length):zC (zKE e (i:Int)) ([],[],0)=aB ((mdS e i).zE,gl i fun k=>(e.zF.getD k []).drop i):=by
  have h6:=h.n6;have eO:=h.pl;have gC:=h.cl;have:=zP (body:=zKE e (i:Int)) (r:=((mdS e i).zE,gl i fun k=>(e.zF.getD k []).drop i)) (fun k=>(gl k (fun k=>gl (e.zA.length-i) fun j=>((e.zB.getD k []).getD (i-1-k+j) []).drop i),gl k (fun k=>(e.zF.getD k []).drop i),(k:Int))) i (fun k hk=>by
    have hl:=kX h.toPres (show k<e.zA.length by omega);have pA:=jQ h.toPres (show k<e.zA.length by omega);have gF:∀s:(List (List (List Int)))×(List (List Int))×Int,s.2.2=(k:Int)→zC (zNl e (i:Int) s) ([],(i:Int))=aB (gl (e.zA.length-i) fun j=>((e.zB.getD k []).getD (i-1-k+j) []).drop i):=fun s hs=>by
      refine zP (body:=zNl e (i:Int) s) (fun j=>(gl j (fun j=>((e.zB.getD k []).getD (i-1-k+j) []).drop i),((i+j:Nat):Int))) (e.zA.length-i) (fun j hj=>?_) ?_
      · have hr:=jR h.toPres (show k<e.zA.length by omega) (show i-1-k+j+k+1<e.zA.length by omega)
        unfold zNl;simp only[hs];rw[yS (by omega),zJ,zT [] (by omega),bs,zD (by omega) (by omega),bs,zD (by omega) (by omega),bs,show((i+j:Nat):Int)-(k:Int)-1=((i-1-k+j:Nat):Int)from by omega,zT [] (by omega),bs,zAo (by omega),bs,wI (by rw[Kj];omega),bs,zX (by rw[yW,Jh];omega),bs,zD (by omega) (by omega),bs,cs,vC (F:=fun j=>((e.zB.getD k []).getD (i-1-k+j) []).drop i)];rfl
      · unfold zNl
        simp only
        rw[show((i+(e.zA.length-i):Nat):Int)=(e.zA.length:Int)from by omega,uU,zK]
    unfold zKE;simp only
    rw[yS hk,zJ,zT [] (by omega),bs,zAo (by omega),bs,wI (by rw[Kj];omega),bs,zX (by rw[yW,Jh];omega),bs,gF _ rfl,bs,zX (by rw[yW,Jh];omega),bs,zD (by omega) (by omega),bs,cs,vC (F:=fun k=>(e.zF.getD k []).drop i),vC (F:=fun k=>gl (e.zA.length-i) fun j=>((e.zB.getD k []).getD (i-1-k+j) []).drop i)]) (by
    unfold zKE;simp only
    rw[uU,zK];rfl)
  exact this
theorem zJs{a0:Mx}(ha:a0.length≤100):zC (zNn e (i:Int)) (a0,0)=aB (a0++(gl i fun k=>gl (i-1-k) fun j=>((e.zB.getD k []).getD j []).drop i).flatten):=by
 have h6:=h.n6;have gC:=h.cl;have fl:∀k,k≤i→(gl k fun k=>gl (i-1-k) fun j=>((e.zB.getD k []).getD j []).drop i).flatten.length≤6*k:=fun k hk=>by
  induction k with
  |zero=>exact Ji _
  |succ k ih=>
   have:=ih (by omega);rw[zHD,Hw,Jb];simp only[List.flatten_cons,List.flatten_nil,Jf,yW];omega
 have:=zP (body:=zNn e (i:Int)) (r:=a0++(gl i fun k=>gl (i-1-k) fun j=>((e.zB.getD k []).getD j []).drop i).flatten) (fun k=>(a0++(gl k fun k=>gl (i-1-k) fun j=>((e.zB.getD k []).getD j []).drop i).flatten,(k:Int))) i (fun k hk=>by
  have pA:=jQ h.toPres (show k<e.zA.length by omega);have hf:=fl k (by omega);have gF:∀(s:(List (List Int))×Int)(w:Mx),s.2=(k:Int)→w.length≤200→zC (zNm e (i:Int) s) (w,((k+1:Nat):Int))=aB (w++gl (i-1-k) fun j=>((e.zB.getD k []).getD j []).drop i):=fun s w hs hw=>by
   have:=zP (body:=zNm e (i:Int) s) (r:=w++gl (i-1-k) fun j=>((e.zB.getD k []).getD j []).drop i) (fun j=>(w++gl j (fun j=>((e.zB.getD k []).getD j []).drop i),((k+1+j:Nat):Int))) (i-1-k) (fun j hj=>by
    have hr:=jR h.toPres (show k<e.zA.length by omega) (show j+k+1<e.zA.length by omega);unfold zNm;simp only[hs];rw[yS (by omega),zJ,zT [] (by omega),bs,zD (by omega) (by omega),bs,zD (by omega) (by omega),bs,show((k+1+j:Nat):Int)-(k:Int)-1=(j:Int)from by omega,zT [] (by omega),bs,zAo (by omega),bs,wI (by rw[Kj];omega),bs,zX (by rw[Jb,yW,Jh];omega),bs,zD (by omega) (by omega),bs,cs,Je,vC (F:=fun j=>((e.zB.getD k []).getD j []).drop i)];rfl) (by
    unfold zNm;simp only
    rw[show((k+1+(i-1-k):Nat):Int)=(i:Int)from by omega,uU,zK])
   simpa[gl]using this
  unfold zNn;simp only
  rw[yS hk,zJ,zD (by omega) (by omega),bs,cs,gF _ _ rfl (by rw[Jb];omega),bs,bs,zHD,Hw,Je];simp) (by
  unfold zNn;simp only
  rw[uU,zK])
 simpa[gl]using this
end
end Go.Pl

namespace Go.Pl
open Go Go.Ab Go.Wk Go.Pc
section
variable {e:SPr} (hc:sJ e) {i:Nat} (hi:i≤e.zA.length) (hs:Scn e i)
 include hc hi hs
theorem zOV:zNj e (i:Int)=aB (tZ e i,mdS e i,tlS e i,0)∧f_i e (i:Int)=aB (tZ e i,mdS e i,tlS e i,0):=by
 have h6:=hc.2.2.n6;have h9:=hc.1.os.1;obtain⟨hM,hE,hx⟩:=zLU hc.2.2 hi hs hc.2.1;obtain⟨hp,hl⟩:=zDC hc.2.2 hi;have hm:=zOU hc.2.2 hi hs;have ht:=zKr hc.2.2 hi hs;have hd:=hs.1;have one:∀{o:Option Bool}{P:Prop},IsB o P→P→o=aB aD:=fun h p=>by
  rcases h with⟨e,_⟩|⟨_,k⟩
  ·exact e
  ·exact absurd p k
 have gF:(0:Int)≤(i:Int)∧(i:Int)≤(e.zA.length:Int):=by omega
 constructor
 ·have bI:=zHN hE (by omega) (by omega) hp.toPres (fun c hc=>(ht.2 c hc).1) hl
  rw[hx]at bI;unfold zNj;rw[one (sX (by omega)) hc,bs,J6,zK,one (uF _ _ _) gF,bs,J6,zK,one (zJo hc.1 hi) hs,bs,J6,zK,bI,bs]
 ·have hg:zKw e=aB aD:=one (zCX (by omega)) hc
  have hn:zNe e (i:Int)=aB aD:=one (show IsB (zNe e (i:Int)) (Ntl e i)from zGh hc.1 hi) hs.2.1;have gB:f_H e (i:Int)=aB (tZ e i,0):=by unfold f_H zU8;rw[hg,bs,J6,zK,one (uZ _ _ _) gF,bs,J6,zK,bs,show((0:Int) != 0)=aE from rfl,zK,hn,bs,J6,zK,zCa hi,bs,wI (by rw[K7];omega),bs,zMJ hc.2.2 hi,bs];rfl
  unfold f_i;rw[hg,bs,J6,zK,one (uZ _ _ _) gF,bs,J6,zK,one (zJp hc.1 hi) hs,bs,J6,zK,gB,bs,yK (by omega),bs,zD (by omega) (by omega),bs,zMK hc.2.2 (by omega),bs,zJs hc.2.2 hi (by rw[yW];omega),bs,show(e.zA.length:Int)-(i:Int)=((e.zA.length-i:Nat):Int)from by omega];rfl
end
theorem zOW{s:zH}{x:SPr}(hs:Src s)(hx:x.zA.length≤100):Ans (zNg s x) fun _=>True:=by unfold zNg;exact .bd (xZ hs (by omega)) fun r1 gV=>.cd (fun _=>.rg (by omega) (.bd (zBy gV.1 (by simp) (by simp)) fun r3 _=>.rt trivial)) fun _=>.rg (by omega) (.bd (xZ gV.1 (by omega)) fun r5 _=>.rt trivial)
theorem zEn(c:List Int)(hb:∀i(h:i<c.length),0≤c[i]∧c[i]≤255):zSr c=aB aD:=by
 unfold zSr zU9;refine zOQ hb (P:=fun r=>DrP r.1) (fun s hs e=>by
  rw[e,bs];refine .bd (zRn hs) fun r2 gz=>.bd (xZ gz.2 (by omega)) fun r3 eB=>?_
  have hn:=gz.1.n;have ix:∀{t:zH},Src t→Ans ((zNg t r2.1).bind fun r7=>aB (r2.1,r7.1)) fun r:SPr×Int=>DrP r.1:=fun ht=>.bd (zOW ht (by omega)) fun r7 _=>.rt gz.1
  exact .cd (fun _=>.cd (fun _=>.rg (by omega) (.bd (xZ eB.1 (by omega)) fun r5 hr5=>.rg (by omega) (.rt gz.1))) fun _=>ix eB.1) fun _=>ix eB.1) fun r hr=>?_
 obtain⟨e,i⟩:=r;simp only at hr ⊢
 have hn:=hr.n;have nl:zHU [] []=aB aD:=zAF (A:=[]) (by simp) (by simp);have nm:zNo (zG.mk 0 0 []) (zG.mk 0 0 [])=aB aD:=by unfold zNo;simp only[beq_self_eq_true,zJ,zBz (A:=[]) (B:=[]) (by simp) (by simp),bs]
 have one:∀{o:Option Bool}{P:Prop},IsB o P→P→o=aB aD:=fun h p=>by
  rcases h with⟨e,_⟩|⟨_,k⟩
  ·exact e
  ·exact absurd p k
 have cases':(∃n:Nat,i=n∧sJ e∧n≤e.zA.length∧Scn e n)∨ ∃k:Int,k≠0∧zNj e i=aB (SPr.mk [] [] [],zG.mk 0 0 [],[],k)∧f_i e i=aB (SPr.mk [] [] [],zG.mk 0 0 [],[],k):=by
  unfold zNj f_i;rcases(zCX (x:=e) (by omega)).both (sX (by omega))with⟨s1,i1,hc⟩|⟨s1,i1,_⟩
  ·rcases(uZ i 0 (e.zA.length:Int)).both (uF i 0 (e.zA.length:Int))with⟨s2,i2,h2⟩|⟨s2,i2,_⟩
   ·obtain⟨n,rfl⟩:∃n:Nat,i=n:=⟨i.toNat,by omega⟩
    rcases(zJp hc.1 (i:=n) (by omega)).both (zJo hc.1 (by omega))with⟨s3,i3,h3⟩|⟨s3,i3,_⟩
    ·exact .inl ⟨n,rfl,hc,by omega,h3⟩
    ·refine .inr ⟨5,by omega,?_,?_⟩
     ·rw[i1,bs,J6,zK,i2,bs,J6,zK,i3,bs];rfl
     ·rw[s1,bs,J6,zK,s2,bs,J6,zK,s3,bs];rfl
   ·refine .inr ⟨2,by omega,?_,?_⟩
    ·rw[i1,bs,J6,zK,i2,bs];rfl
    ·rw[s1,bs,J6,zK,s2,bs];rfl
  ·refine .inr ⟨1,by omega,?_,?_⟩
   ·rw[i1,bs];rfl
   ·rw[s1,bs];rfl
 rcases cases' with⟨n,rfl,hc,hi,hs⟩|⟨k,hk,i1,s1⟩
 ·obtain⟨i1,s1⟩:=zOV hc hi hs
  obtain⟨hM,hE,hx⟩:=zLU hc.2.2 hi hs hc.2.1;obtain⟨hp,hl⟩:=zDC hc.2.2 hi;have h6:=hc.2.2.n6;have ht:=zKr hc.2.2 hi hs;have el:=uO (tZ e n).zA.length (by have:=hp.n6;omega);have hd:=hs.1;have hxx:exx (e.zA.length-n) (tZ e n) (mdS e n) (tlS e n)=e:=by show ext (tZ e n).zA.length _ _ _ _=e;rw[hl];exact hx
  have py:Coc (tZ e n) (mdS e n) (e.zA.length-n) (tlS e n):=⟨ht,by rw[hxx];exact hc.2.1⟩;have cu:zHU (tlS e n) (tlS e n)=aB aD:=by rw[ht.vo.like (by omega) (by omega),beq_self_eq_true]
  have eu:=hM.gr.2.2;have mS:=(zMH hM py py).2 [tlS e n] (by simp) (fun t=>by simp);have br:zRI (tZ e n) (mdS e n) (tlS e n)=aB (aD,0):=by unfold zRI;rw[hM.im,bs,J6,zK,one (zE7 hp hM.ok (T:=tlS e n) (by have:=ht.1;omega)) ht,bs,J6,zK,one (zLO hp hM.ok ht) py.2,bs]
  have hei:f_g (tZ e n) (mdS e n) (tlS e n)=aB e:=by have:=zJd hE;rw[hx]at this;exact this
  have cD:zRJ (tZ e n) (mdS e n) (tlS e n)=aB (e,0):=by unfold zRJ zUz;rw[mS,bs,show((0:Int) != 0)=aE from rfl,zK,hei,bs,one (zAa (by omega)) hc.2.2,bs,J6,zK,bs]
  obtain⟨N,n1,n2,n3,n4⟩:=hM.order;rw[i1,bs,s1,bs];simp only[bne_self_eq_false,zK];rw[zAM (zLR hp.toPres),bs,zGg hM.ok hp.os.1,bs,cu,bs];simp only[J6,zK];rw[n4,bs];unfold zSq;simp only[hM.im,bs,br,cD,zJ,beq_self_eq_true,zAM (zLR hc.1)];cases decide ((N:Int)> 32)with
  |true=>rfl
  |false=>rfl
 ·rw[i1,bs,s1,bs]
  simp only[bne_self_eq_false,zK,zAM zUk,nm,nl,bs,J6,zAx hk,zJ]
theorem zCb(c:List Int)(h:VL VU c):zSr c=aB aD:=zEn c (vu h)
end Go.Pl
