/- x -/
import Derived.Test.YtchnmobojdcikaaGreatPlB
open List renaming replicate→J1,getD_eq_getElem?_getD→J4,getElem?_eq_getElem→J6,length_append→J7,length_singleton→Jb,mem_map→Je,length_map→Jg,append_nil→Jh,append_assoc→Ji,getElem?_map→Jm,range→Jn,getElem?_replicate→Jp,mem_append→Jv,mem_range→Jx,mem_iff_getElem→K8,range_succ→K9,getElem?_append→Kd,length_set→Kh,getElem_mem→Kj,length_replicate→Kk,length_drop→Kv,length_take→L5,map_congr_left→G4,mem_flatMap→G6,drop_eq_getElem_cons→Ga,mem_filter→Gm,mem_filterMap→U1,append_cancel_right→Uh,length→Uz,getElem?_eq_none→Qp,replicate_succ'→Qw,set_append_right→Ja6
open Bool renaming and_eq_true→J2,not_true→J3,not_false→Jo,false_and→Jaq
open Nat renaming zero_add→Ja,le_refl→Jd,lt_or_ge→Js,mul_le_mul→Jy,add_sub_cancel_left→Kw,le_trans→Ht,mul_comm→Uw,div_lt_of_lt_mul→Qz,lt_irrefl→Ja4,eq_zero_or_pos→Jai
open Int renaming mul_emod→Jk,emod_eq_of_lt→Jr,emod_emod→Ju,emod_lt_of_pos→K4,add_emod→K5,tmod_eq_emod_of_nonneg→Kb,emod_nonneg→Ke,one_mul→Kl,tdiv_eq_ediv_of_nonneg→Kq,mul_one→Ku,add_zero→Lb,mul_le_mul_of_nonneg_left→Li,natCast_add→Lm,zero_add→Lo,mul_zero→Lp,emod_add_emod→Lq,natCast_mul→Ls,fdiv→H6,toNat_of_nonneg→Hc,mul_comm→Hd,mul_assoc→Gb,zero_mul→Gx,sub_emod→Gy,emod_eq_emod_iff_emod_sub_eq_zero→Gz,add_emod_right→U9,zero_emod→Ui,mul_add→Ja2,le_refl→Jaz
open Option renaming some→Lh,getD_some→H7
open Option renaming some→dS,none→dT
open Bool renaming true→dU,false→dV
namespace Go.Pl
open Go Go.Ab Go.Wk Go.Pc
theorem zTl{s:zD}{x:SPr}(hs:Src s)(hx:jU x):Ans (f_h s x) fun r=>Src r.2.2.2∧(r.2.2.1=dU→DrP r.1∧DrE r.2.1):=by
 have h6:=hx.n6;have h:=hx.toPres;unfold f_h;have all:∀{i:Nat}{b:Bool},i<x.zA.length→Ans (zE (zWZ x i) (b,(i:Int))) fun _=>True:=fun{i b} hi=>by
  refine .lp (fun q t=>t.2=((i+q:Nat):Int)) (x.zA.length-i) rfl fun q t hq ht=>?_
  unfold zWZ;rw[ht];refine .cd (fun hl=>?_) fun _=>.rt trivial
  simp only[decide_eq_true_eq]at hl;refine .bd (P:=fun _=>True) (.jn ?_) fun b _=>.rg (by omega) (.bd (P:=fun _=>True) ?_ fun _ _=>.rg (by omega) (.rt ⟨by omega,by simp only;omega⟩))
  ·unfold zWY
   rw[ht];refine .cd (fun _=>?_) fun _=>.rt trivial
   rw[zZ (by omega),bs,zZ hi,bs];refine .cd (fun _=>?_) fun _=>.rt trivial
   rw[zR [] (by have:=h.pl;omega),bs];rcases kJ (v:=x.zN.getD (i+q) []) (by have:=zEx h (show i+q<x.zA.length by omega);omega)with⟨e,_⟩|⟨e,_⟩<;>(rw[e,bs];exact .rt trivial)
  ·refine .lp (fun q' t=>t.2=((i+q+1+q':Nat):Int)) (x.zA.length-(i+q+1)) rfl fun q' t' hq' fx=>?_
   unfold zZU;rw[fx,ht];refine .cd (fun hl=>?_) fun _=>.rt trivial
   simp only[decide_eq_true_eq]at hl;refine .cd (fun _=>zTk h (by omega) (by omega) fun v hv=>?_) fun _=>.rg (by omega) (.rt ⟨by omega,by simp only;omega⟩)
   rw[zYb (by omega) (by omega),bs,zFE (by omega),bs];exact .rg (by omega) (.rt ⟨by omega,by simp only;omega⟩)
 refine .bd (P:=Ei (fun t=>Src ⟨t.1,t.2.1,t.2.2⟩) fun r=>Src r.2.2.2∧(r.2.2.1=dU→DrP r.1∧DrE r.2.1)) (.lp (fun q t=>t.2.2.2=((1+q:Nat):Int)∧Src ⟨t.1,t.2.1,t.2.2.1⟩) 3 ⟨rfl,hs⟩ fun q t hq ht=>?_) fun y hy=>?_
 ·unfold zZW
  refine .bd (P:=fun b=>b=dU→1+q<x.zA.length∧q<3) (.jn ?_) fun b hb=>.cd (fun e=>?_) fun _=>.rt ht.2
  ·unfold zWX
   rw[ht.1];refine .cd (fun hl=>.rt fun e=>?_) fun _=>.rt fun e=>by cases e
   simp only[decide_eq_true_eq]at hl e;omega
  obtain⟨hl,hq3⟩:=hb e;rw[ht.1];refine .rg (by omega) ?_;rw[show(x.zA.length:Int)-((1+q:Nat):Int)=((x.zA.length-(1+q):Nat):Int)from by omega]
  generalize hi:x.zA.length-(1+q)=i
  refine .bd (zJA h (by omega)) fun b _=>.bd (all (by omega)) fun b _=>.bd (P:=fun r=>Src ⟨r.1,r.2.1,r.2.2.1⟩) (.jn ?_) fun u hu=>.cd (fun _=>?_) fun _=>.rg (by omega) (.rt ⟨by omega,by simp only;omega,hu⟩)
  ·unfold zXa
   exact .cd (fun _=>.cd (fun _=>.rt ht.2) fun _=>.bd (yS ht.2 (by omega)) fun r hr=>.cd (fun _=>.rt hr.1) fun _=>.rg (by omega) (.rt hr.1)) fun _=>.rt ht.2
  refine .bd (zWj h hx (by omega)) fun r hr=>?_
  rw[zZ (by omega),bs];refine .bd (zZz h (by omega)) fun A hA=>.rt ⟨hu,fun _=>⟨hr,?_,⟨by simp only;omega,by simp only;omega⟩,hA.1,hA.2⟩⟩
  have:=(h.os.2 i (by omega)).pos;exact⟨by simp only;omega,by simp only;omega⟩
 ·rcases y with t|r
  ·exact .rt ⟨hy,fun e=>by cases e⟩
  ·exact .rt hy
structure AL (n D:Nat) (c:List (List (List Int))):Prop where
 l:c.length=n
 d:∀i,i<n→(c.getD i []).length=D∧ ∀j,j<D→((c.getD i []).getD j []).length=D
theorem AL.set{n D:Nat}{c:List (List (List Int))}(h:AL n D c){i j k:Nat}{z:Int}(hi:i<n)(hj:j<D):AL n D (c.set i ((c.getD i []).set j (((c.getD i []).getD j []).set k z))):=by
 have hn:=h.l;refine⟨by rw[Kh,hn],fun q hq=>?_⟩
 by_cases e:q=i
 ·subst e
  have:=h.d q hq;rw[show(c.set q ((c.getD q []).set j (((c.getD q []).getD j []).set k z))).getD q []=(c.getD q []).set j (((c.getD q []).getD j []).set k z)from by grind];refine⟨by rw[Kh,this.1],fun w hw=>?_⟩
  by_cases e:w=j
  ·subst e;have:=this.2 w hw;grind
  ·have:=this.2 w hw;grind
 ·have:=h.d q hq;grind
theorem zTm{n D:Nat}:AL n D (gl n fun _=>idM D):=⟨wC,fun i hi=>by rw[show(gl n fun _=>idM D).getD i []=idM D from by simp[gl,hi]];exact⟨by simp[idM],fun j hj=>by simp[idM,hj,mkv]⟩⟩
theorem AL.dre{n D:Nat}{q:Int}{c:List (List (List Int))}(h:AL n D c)(hn:n≤7)(h1:1≤D)(h3:D≤3)(hq:-100≤q∧q≤100):DrE ⟨q,D,c⟩:=⟨hq,⟨by simp only;omega,by simp only;omega⟩,by have:=h.l;simp only;omega,fun A hA=>by
 obtain⟨i,hi,rfl⟩:=K8.1 hA;have:=(h.d i (by rw[←h.l];exact hi)).2 0 (by omega);rw[show c.getD i []=c[i]from by grind]at this;exact fun e=>by have e:(c[i].getD 0 []).length=0:=e;omega⟩
end Go.Pl

namespace Go.Pl
open Go Go.Ab Go.Wk Go.Pc
section
variable {x:SPr}{D:Nat}
theorem zWk{r6:(List Int)×Int×Int×Int}{d r:Int×zD}{m:zB}{i:Nat}{n:Nat}(hm:m.Dim=(D:Int))(hi:r.1=(i:Int))(gN:i<n)(hq:-100≤r6.2.2.2∧r6.2.2.2≤100)(hD:D≤3)(hs:Src r.2)(ha:AL n D m.zG):
  Ans (zE (zXf r6 m r) (r.2.code,r.2.at_,r.2.seed,m.zG,0)) fun t=>Src ⟨t.1,t.2.1,t.2.2.1⟩∧AL n D t.2.2.2:=by
 have _:=d;refine .lp (fun k t=>t.2.2.2.2=k∧Src ⟨t.1,t.2.1,t.2.2.1⟩∧AL n D t.2.2.2.1) D ⟨rfl,hs,ha⟩ fun k t hk ht=>?_
 unfold zXf;rw[ht.1,hi];refine .cd (fun hl=>?_) fun _=>.rt ht.2
 simp only[decide_eq_true_eq,hm]at hl;have h1:=ht.2.2.d i gN;have h2:=h1.2 k (by omega);rw[zR [] (by have:=ht.2.2.l;omega),bs,zR [] (by omega),bs];refine .rg (by omega) (.bd (yS ht.2.1 (by omega)) fun r1 gC=>.rg (by omega) ?_);rw[zZ (by omega),bs];have bY:AL n D (t.2.2.2.1.set (i:Int).toNat ((t.2.2.2.1.getD i []).set (k:Int).toNat (((t.2.2.2.1.getD i []).getD k []).set (k:Int).toNat (1+r1.1)))):=ht.2.2.set gN (by omega)
 generalize t.2.2.2.1.set (i:Int).toNat ((t.2.2.2.1.getD i []).set (k:Int).toNat (((t.2.2.2.1.getD i []).getD k []).set (k:Int).toNat (1+r1.1)))=c at bY ⊢
 refine .bd (P:=fun u=>Src ⟨u.1,u.2.1,u.2.2.1⟩∧(u.2.2.2=dU→0<k)) (.jn ?_) fun u hu=>.cd (fun eB=>?_) fun _=>.rg (by omega) (.rt ⟨by omega,by simp only;omega,hu.1,bY⟩)
 ·unfold zXe
  rw[ht.1];refine .cd (fun eB=>.bd (yS gC.1 (by omega)) fun r2 gz=>.rt ⟨gz.1,fun _=>?_⟩) fun _=>.rt ⟨gC.1,fun e=>by cases e⟩
  simp only[decide_eq_true_eq]at eB;omega
 have eB:=hu.2 eB;have h3:=bY.d i gN;have h4:=h3.2 k (by omega);rw[zR [] (by have:=bY.l;omega),bs,zR [] (by omega),bs];refine .rg (by omega) (.bd (yS hu.1 (by omega)) fun r3 hH=>?_);rw[show(k:Int)-1=((k-1:Nat):Int)from by omega,zZ (by omega),bs];exact .rg (by omega) (.rt ⟨by omega,by simp only;omega,hH.1,bY.set gN (by omega)⟩)
theorem zTn{r6:(List Int)×Int×Int×Int}{s:zD}{m:zB}(hx:jU x)(hq:-100≤r6.2.2.2∧r6.2.2.2≤100)(hs:Src s)(hm:DrE m):Ans ((zE (zXg x r6) (s.code,s.at_,s.seed,m.Prime,m.Dim,m.zG,0)).bind fun r33=>
     match r33 with
     |(.inl r33)=>
      dS ((zB.mk r33.2.2.2.1 r33.2.2.2.2.1 r33.2.2.2.2.2),(zD.mk r33.1 r33.2.1 r33.2.2.1))
     |(.inr r33)=>
      dS r33) fun r=>Src r.2∧DrE r.1:=by
 refine .bd (P:=Ei (fun t=>Src ⟨t.1,t.2.1,t.2.2.1⟩∧DrE ⟨t.2.2.2.1,t.2.2.2.2.1,t.2.2.2.2.2⟩) fun r=>Src r.2∧DrE r.1) (.lp (fun i t=>t.2.2.2.2.2.2=i∧Src ⟨t.1,t.2.1,t.2.2.1⟩∧DrE ⟨t.2.2.2.1,t.2.2.2.2.1,t.2.2.2.2.2.1⟩) 8 ⟨rfl,hs,hm⟩ fun i t hi ht=>?_) fun y hy=>?_
 ·unfold zXg
  refine .cd (fun hl=>.bd (yS ht.2.1 (by omega)) fun r1 gC=>.rg (by omega) ?_) fun _=>.rt ht.2
  simp only[decide_eq_true_eq]at hl;have h6:=hx.n6;obtain⟨D,hD⟩:∃D:Nat,1+r1.1=(D:Int):=⟨(1+r1.1).toNat,by omega⟩;rw[hD,zYd (by omega) (by omega),bs];refine .bd (yS gC.1 (by omega)) fun r2 gz=>.cd (fun _=>.rt ⟨gz.1,ht.2.2⟩) fun df=>?_
  simp only[decide_eq_false_iff_not]at df;obtain⟨k,hk⟩:∃k:Nat,r2.1=(k:Int):=⟨r2.1.toNat,by omega⟩;refine .bd (zWk (d:=r2) (n:=x.zA.length) rfl hk (by omega) hq (by omega) gz.1 zTm) fun t' fx=>?_
  have tu:=fx.2.dre (q:=r6.2.2.2) (by omega) (by omega) (by omega) hq;rcases zHP (m:=⟨r6.2.2.2,D,t'.2.2.2⟩) hx.toPres with⟨e,_⟩|⟨e,_⟩
  ·rw[e,bs,zI];exact .rg (by omega) (.rt ⟨by omega,by simp only;omega,fx.1,tu⟩)
  ·rw[e,bs,zH];exact .rg (by omega) (.rt ⟨by omega,by simp only;omega,fx.1,ht.2.2⟩)
 ·rcases y with t|r
  ·exact .rt hy
  ·exact .rt hy
end
theorem zPA{s:zD}{x:SPr}(hs:Src s)(hx:DrP x):Ans (f_l s x) fun r=>Src r.2∧DrE r.1:=by
 have h7:=hx.n;unfold f_l;refine .bd (zAk hs (by simp) (by simp)) fun r1 gC=>?_
 have hq:-100≤r1.1∧r1.1≤100:=by have:=gC.2;simp at this;omega
 refine .bd (P:=fun t=>Src ⟨t.1,t.2.1,t.2.2.1⟩∧ -100≤t.2.2.2∧t.2.2.2≤100) (.jn ?_) fun t ht=>.bd (yS ht.1 (by omega)) fun r2 gz=>.rg (by omega) ?_
 ·unfold zXc
  refine .bd (P:=fun u=>Src ⟨u.1,u.2.1,u.2.2.1⟩∧(u.2.2.2=dU→0<x.zA.length)) (.jn ?_) fun u hu=>.cd (fun e=>.bd (yS hu.1 (by omega)) fun r3 hH=>?_) fun _=>.rt ⟨hu.1,hq⟩
  ·unfold zXb
   refine .cd (fun hl=>.bd (yS gC.1 (by omega)) fun r2 gz=>.rt ⟨gz.1,fun _=>?_⟩) fun _=>.rt ⟨gC.1,fun e=>by cases e⟩
   simp only[decide_eq_true_eq]at hl;omega
  ·have hl:=hu.2 e
   obtain⟨k,hk⟩:∃k:Nat,r3.1=(k:Int):=⟨r3.1.toNat,by omega⟩;rw[hk,zZ (by omega),bs];exact .rt ⟨hH.1,hx.o _ (zC3 (by omega))⟩
 obtain⟨D,hD⟩:∃D:Nat,1+r2.1=(D:Int):=⟨(1+r2.1).toNat,by omega⟩;rw[hD,zYd (by omega) (by omega),bs];have tu:=(zTm (n:=x.zA.length) (D:=D)).dre (q:=t.2.2.2) h7 (by omega) (by omega) ht.2;refine .bd (P:=fun u=>Src ⟨u.1,u.2.1,u.2.2.1⟩∧(u.2.2.2=dV→jU x)) (.jn ?_) fun u hu=>.cd (fun _=>.rt ⟨hu.1,tu⟩) fun e=>zTn (hu.2 e) ht.2 hu.1 tu
 unfold zXd;refine .bd (yS gz.1 (by omega)) fun r3 hH=>.cd (fun _=>.rt ⟨hH.1,fun e=>by cases e⟩) fun _=>?_
 rcases wP (x:=x) (by omega)with⟨e,h⟩|⟨e,_⟩
 ·rw[e,bs];exact .rt ⟨hH.1,fun _=>h⟩
 ·rw[e,bs];exact .rt ⟨hH.1,fun e=>by cases e⟩
theorem yBQ{x:SPr}(hx:jU x):zNh x=dS x:=by
 have h6:=hx.n6;unfold zNh;rw[wF (by omega),bs,zBZ (by have:=hx.pl;omega) (fun i hi=>by have:=zEx hx.toPres (show i<x.zA.length by have:=hx.pl;omega);omega),bs];rw[vV (body:=zGu x) x.zC.length (fun i=>x.zC.getD i []) (fun i acc hi ha=>by
  have ey:i<x.zA.length:=by have:=hx.cl;omega
  have hc:=zFW hx.toPres ey;have:=hx.cl;unfold zGu;simp only
  rw[yJ hi,zI,zR [] hi,bs,zBZ (by omega) (fun j hj=>by have:=zEy hx.toPres ey (show j+i+1<x.zA.length by omega);omega),bs,zS (by simp;omega),bs,zF (by omega) (by omega),bs,cs]) (fun acc=>by
  unfold zGu;simp),bs]
 congr 2
 exact List.ext_getElem (by simp) fun i h1 h2=>by simp at h1 ⊢;grind
theorem zFl{o:List Int}{p:List (List Int)}{c:List (List (List Int))}(h:o.length≤7)(k:∀x∈o,-100≤x∧x≤100):DrP ⟨o,p,c⟩:=⟨h,k⟩
theorem zWl{s:zD}{x:SPr}(hs:Src s)(hx:jU x):Ans (zXh s x) fun r=>DrP r.1∧Src r.2:=by
 have h6:=hx.n6;have ho:=hx.drp.o;have h7:=hx.drp.n;have cu:=hx.pl;have gI:=hx.cl;unfold zXh;rw[yBQ hx,bs];refine .bd (yS hs (by omega)) fun r hr=>.cd (fun _=>?_) fun _=>.cd (fun _=>.cd (fun hl=>.bd (zAk hr.1 (by simp) (by simp)) fun r1 gC=>?_) fun _=>.rt ⟨hx.drp,hr.1⟩) fun _=>.cd (fun _=>.cd (fun hl=>?_) fun _=>.rt ⟨hx.drp,hr.1⟩) fun _=>
  .cd (fun _=>.cd (fun hl=>?_) fun _=>.rt ⟨hx.drp,hr.1⟩) fun _=>.cd (fun _=>.cd (fun hl=>?_) fun _=>.rt ⟨hx.drp,hr.1⟩) fun _=>?_
 ·rw[zS (by simp;omega),bs]
  refine .rt ⟨zFl (by simp;omega) fun y hy=>?_,hr.1⟩;rcases Jv.1 hy with hy|hy
  ·exact ho y hy
  ·simp at hy;omega
 ·simp only[decide_eq_true_eq]at hl
  rw[show(0:Int)=((0:Nat):Int)from rfl,zZ (by omega),bs];refine .rt ⟨zFl (by simpa using h7) fun y hy=>?_,gC.1⟩;rcases List.mem_or_eq_of_mem_set hy with hy|hy
  ·exact ho y hy
  ·have:=gC.2;simp at this;omega
 ·simp only[decide_eq_true_eq]at hl
  have:=zEx hx.toPres (show 0<x.zA.length by omega);rw[show(0:Int)=((0:Nat):Int)from rfl,zR [] (by omega),bs,wF (by omega),bs,zS (by rw[Jb];omega),bs,bs];exact .rt ⟨zFl h7 ho,hr.1⟩
 ·simp only[decide_eq_true_eq]at hl
  have:=zEx hx.toPres (show 0<x.zA.length by omega);rw[show(0:Int)=((0:Nat):Int)from rfl,zR [] (by omega),bs];refine .cd (fun _=>?_) fun _=>.rt ⟨hx.drp,hr.1⟩
  rw[bs,zZ (by omega),bs];exact .rt ⟨zFl h7 ho,hr.1⟩
 ·simp only[decide_eq_true_eq]at hl
  have hc:=zFW hx.toPres (show 0<x.zA.length by omega);rw[show(0:Int)=((0:Nat):Int)from rfl,zR [] (by omega),bs,zBZ (by omega) (fun j hj=>by have:=zEy hx.toPres (show 0<x.zA.length by omega) (show j+0+1<x.zA.length by omega);omega),bs,yF (by omega),bs,zS (by rw[Jb];omega),bs,bs];exact .rt ⟨zFl h7 ho,hr.1⟩
 ·rw[kZ (by simp),bs]
  refine .bd (yS hr.1 (by omega)) fun r1 gC=>.cd (fun _=>?_) fun _=>.rt ⟨zFl (by simp) (by simp),gC.1⟩
  rw[kZ (by simp),bs];exact .rt ⟨zFl (by simp) (by simp),gC.1⟩
theorem zPB{s:zD}{x:SPr}(hs:Src s)(hx:jU x):Ans (zUR s x) fun r=>DrP r.1∧Src r.2:=by
 have h6:=hx.n6;have ho:=hx.drp.o;have h7:=hx.drp.n;have cu:=hx.pl;have gI:=hx.cl;unfold zUR;rw[yBQ hx,bs];refine .bd (yS hs (by omega)) fun r hr=>.rg (by omega) (.rg (by omega) (.rg (by omega) (.bd (yS hr.1 (by omega)) fun r1 gC=>.rg (by omega) (.cd (fun _=>.rt ⟨hx.drp,gC.1⟩) fun hl=>.bd (yS gC.1 (by omega)) fun r2 gz=>?_))))
 simp only[decide_eq_false_iff_not]at hl;obtain⟨i,hi⟩:∃i:Nat,r.1=i:=⟨r.1.toNat,by omega⟩;obtain⟨j,hj⟩:∃j:Nat,r.1+1+r1.1=j:=⟨(r.1+1+r1.1).toNat,by omega⟩;rw[hj,hi];have aX:=(hx.os.2 j (by omega)).pos;refine .cd (fun _=>?_) fun _=>.rg (by omega) (.rg (by omega) (.rg (by omega) (.bd (yS gz.1 (by omega)) fun r3 hH=>.rg (by omega) ?_)))
 ·have:=zEx hx.toPres (show i<x.zA.length by omega)
  rw[zR [] (by omega),bs,zZ (by omega),bs];refine .bd (yS gz.1 (by omega)) fun r3 hH=>?_
  rw[zZ (by omega),bs];exact .rt ⟨zFl h7 ho,hH.1⟩
 ·obtain⟨k,hk⟩:∃k:Nat,(i:Int)+1+r3.1=k:=⟨((i:Int)+1+r3.1).toNat,by omega⟩
  rw[hk];have hc:=zFW hx.toPres (show i<x.zA.length by omega);have hr:=zEy hx.toPres (show i<x.zA.length by omega) (show k-i-1+i+1<x.zA.length by omega);rw[zR [] (by omega),bs];refine .rg (by omega) (.rg (by omega) ?_);rw[show(k:Int)-i-1=((k-i-1:Nat):Int)from by omega,zR [] (by omega),bs,zZ (by omega),bs];refine .bd (yS hH.1 (by omega)) fun r4 pW=>?_
  rw[zZ (by omega),bs];exact .rt ⟨zFl h7 ho,pW.1⟩
theorem zWm{s:zD}(hs:Src s){n:Int}:Ans (zO8 s n) fun r=>DrP r.1∧Src r.2:=by unfold zO8;refine .bd (zMs hs) fun r hr=>.bd (yS hr.2 (by omega)) fun r1 gC=>.cd (fun _=>.bd (zWl gC.1 hr.1) fun r2 gz=>.rt gz) fun _=>.cd (fun _=>.cd (fun _=>.bd (zPB gC.1 hr.1) fun r2 gz=>.rt gz) fun _=>.rt ⟨hr.1.drp,gC.1⟩) fun _=>.cd (fun _=>.bd (zPB gC.1 hr.1) fun r2 gz=>.rt gz) fun _=>.rt ⟨hr.1.drp,gC.1⟩
theorem DrE.drm{m:zB}(h:DrE m):DrM m:=⟨h.p,by have:=h.d;omega,by have:=h.l;omega⟩
theorem zIo{s:zD}(hs:Src s){n:Int}:Ans (zRs s n) fun r=>DrP r.1∧DrM r.2.1∧Src r.2.2:=by
 have fin:∀{s:zD}{x:SPr}{m:zB},Src s→DrP x→DrE m→Ans (
   (f_e s 30).bind fun r4=>
   cond (r4.1==0) (
    (rng (m.Dim+1)).bind fun v5=>
    dS (x,(zB.mk m.Prime v5 m.zG),r4.2)) (
    cond (r4.1==1) (
     (zDL r4.2 [2,3,4,11]).bind fun r6=>
     dS (x,(zB.mk r6.1 m.Dim m.zG),r6.2)) (
     cond (r4.1==2) (
      (f_u m.Dim).bind fun r7=>
      (zX m.zG [r7]).bind fun v8=>
      dS (x,(zB.mk m.Prime m.Dim v8),r4.2)) (
      cond (r4.1==3) (
       (zO8 r4.2 n).bind fun r9=>
       dS (r9.1,m,r9.2)) (
       cond (r4.1==4) (
        cond (decide ((m.zG.length:Int)> 0)) (
         (ixO m.zG 0).bind fun v10=>
         (ixO v10 0).bind fun v11=>
         (f_e r4.2 m.Prime).bind fun r12=>
         (ixO v11 0).bind fun _=>
         dS (x,(zB.mk m.Prime m.Dim (m.zG.set (0:Int).toNat (v10.set (0:Int).toNat (v11.set (0:Int).toNat r12.1)))),r12.2)) (
         dS (x,m,r4.2))) (
        dS (x,m,r4.2))))))) fun r=>DrP r.1∧DrM r.2.1∧Src r.2.2:=fun{s x m} hs hx hm=>by
  have hp:=hm.p;have hd:=hm.d;have hl:=hm.l;refine .bd (yS hs (by omega)) fun r hr=>.cd (fun _=>.rg (by omega) (.rt ⟨hx,⟨hp,by simp only;omega,by simp only;omega⟩,hr.1⟩)) fun _=>.cd (fun _=>.bd (zAk hr.1 (by simp) (by simp)) fun r1 gC=>.rt ⟨hx,⟨by have:=gC.2;simp at this;simp only;omega,by simp only;omega,by simp only;omega⟩,gC.1⟩) fun _=>
   .cd (fun _=>?_) fun _=>.cd (fun _=>.bd (zWm hr.1) fun r1 gC=>.rt ⟨gC.1,hm.drm,gC.2⟩) fun _=>.cd (fun _=>.cd (fun hl=>?_) fun _=>.rt ⟨hx,hm.drm,hr.1⟩) fun _=>.rt ⟨hx,hm.drm,hr.1⟩
  ·obtain⟨D,hD⟩:∃D:Nat,m.Dim=(D:Int):=⟨m.Dim.toNat,by omega⟩
   rw[hD,zYc (by omega),bs,zS (by simp;omega),bs];exact .rt ⟨hx,⟨hp,by simp only;omega,by simp;omega⟩,hr.1⟩
  ·simp only[decide_eq_true_eq]at hl
   have h0:=hm.a (m.zG.getD 0 []) (zC3 (by omega));have h1:0<(m.zG.getD 0 []).length:=by
    rcases Jai (m.zG.getD 0 []).length with e|e
    ·exact absurd (by rw[List.length_eq_zero_iff.1 e];rfl) h0
    ·exact e
   rw[show(0:Int)=((0:Nat):Int)from rfl,zR [] (by omega),bs,zR [] (by omega),bs];refine .bd (yS hr.1 (by omega)) fun r1 gC=>?_
   rw[zZ (by omega),bs];exact .rt ⟨hx,⟨hp,by simp only;omega,by simp;omega⟩,gC.1⟩
 unfold zRs;refine .bd (zMs hs) fun r hr=>.bd (zTl hr.2 hr.1) fun r1 gC=>.cd (fun e=>.bd (yS gC.1 (by omega)) fun r2 gz=>.cd (fun _=>fin gz.1 (gC.2 e).1 (gC.2 e).2) fun _=>.bd (zPA gz.1 hr.1.drp) fun r3 hH=>fin hH.1 hr.1.drp hH.2) fun _=>.bd (zPA gC.1 hr.1.drp) fun r3 hH=>fin hH.1 hr.1.drp hH.2
end Go.Pl

namespace Go.Pl
open Go Go.Ab Go.Wk Go.Pc
abbrev VU(n:Int):Prop:=(Lit.int .u8 n).wf=dU
theorem vu{c:List Int}(h:VL VU c)(i:Nat)(hi:i<c.length):0≤c[i]∧c[i]≤255:=by have:=h.2 c[i] (Kj hi);simp only[VU,Lit.wf,J2,IntKind.min,IntKind.max,IntKind.signed,IntKind.bits]at this;simpa using this
theorem zIp{c:List Int}:zNf c=dS (decide ((c.length:Int)> 4096)):=rfl
theorem zDi{α:Type}{c:List Int}{P:α→Prop}{o:Option α}{k:α→Option Bool}(hb:∀i(h:i<c.length),0≤c[i]∧c[i]≤255)(ho:(∀s,Src s→zKN c=dS s→Ans o P))(hk:∀r,P r→k r=dS dU):
  ((zNf c).bind fun r1=>cond r1 (dS dU) (o.bind k))=dS dU:=by
 rw[zIp,bs]
 by_cases h:(c.length:Int)> 4096
 ·rw[dX h,zI]
 ·rw[dW h,zH]
  obtain⟨s,h1,h2⟩:=zWf hb (by omega);obtain⟨r,h3,h4⟩:=ho s h2 h1;rw[h3,bs];exact hk r h4
section
variable {n D:Nat}{m:zB} (hm:MOk n m D) (hn:n≤14)
 include hm hn
 omit hn in
 theorem zZ0:jR m n D=fxR m n D:=by
  have h7:=hm.p.pos;have h3:=hm.d3;unfold jR fxR zAw inn gl;refine G4 fun k hk=>?_
  have hk:=Jx.1 hk
  congr 1
  refine G4 fun g hg=>?_
  have hA:=hm.mat g (Jx.1 hg);unfold wQ mvr mkv;refine G4 fun j hj=>?_
  have hj:=Jx.1 hj;have hr:=(hA.2 k hk).2 j hj;have e:at0 (xW m.Prime D (uJ D k) (m.zG.getD g [])) j=ent (m.zG.getD g []) k j:=by rw[xW,zT hj,zBs (k:=k) hk (fun i hi gc=>by rw[uJ,zT hi,if_neg gc,Gx]),uJ,zT hk,if_pos rfl,Kl];exact vL hr
  rw[e,uJ,zT hj]
  by_cases h:j=k
  ·rw[if_pos h,if_pos h,h];rfl
  · rw[if_neg h,if_neg h,Lp,Lb]
    exact vL hr
end
theorem zDJ(c:List Int)(hb:∀i(h:i<c.length),0≤c[i]∧c[i]≤255):zXl c=dS dU:=by
 unfold zXl zZZ;refine zDi hb (P:=fun r=>DrP r.1∧DrM r.2) (fun s hs e=>by rw[e,bs];exact .bd (zIo hs) fun r hr=>.rt ⟨hr.1,hr.2.1⟩) fun r hr=>?_
 obtain⟨x,m⟩:=r;obtain⟨hx,hm⟩:=hr;have hl:x.zA.length≤1048576:=by have:=hx.n;simp only at this;omega
 have tt:m.zG.length≤1048576:=by have:=hm.l;simp only at this;omega
 unfold zZN zZL zZO zZI zZK;rcases(zB7 (m:=m) hl).both (zB8 (m:=m) hl tt)with⟨s1,i1,hM⟩|⟨s1,i1,hM⟩
 ·obtain⟨hc,D,hD,_⟩:=hM
  have h6:=hc.1.os.1;have h3:=hD.d3;have h1:=hD.d1;have eO:x.zA.length*D≤14*3:=Jy h6 h3;obtain⟨K,pk,k1,k2,k3⟩:=zId hc.1 hD;obtain⟨R,pv,r1,r2,r3,r4⟩:=zJ1 hD h6;have hK:K.length≤x.zA.length*D:=k3.len_le;have hR:R.length≤x.zA.length*D:=r3.len_le;have er:rng ((K.length:Int)-(R.length:Int))=dS ((K.length:Int)-(R.length:Int)):=by grind[zF]
  obtain⟨N,pn,n1,n2,n3,_⟩:=zFO hD.p (c:=x.zA.length*D) (N:=D) (by omega) (zSS hD h6) wC;obtain⟨W,pw,t,g1,g2⟩:=zQ4 hD.p (c:=x.zA.length*D) (N:=D) (by omega) (zSS hD h6) wC;have hN:N.length=D-R.length∧R.length≤D:=by rw[n1]at g2;obtain rfl:=Lh.inj g2;rw[zZ0 hD]at r4;exact g1.count hD.p (by omega) r3 r4
  have e0:ixO (fxR m x.zA.length D) 0=dS (zAw m D x.zA.length 0):=zJ2 (i:=0) (by omega);unfold zZM;simp only[s1,i1,bs,J3,zH,k1,k2,zEu hD h6,zBe hD h6 rfl,r1,r2,er];simp only[zVZ hD h6 rfl,hD.d,bs,yF (show D≤68719476736 by omega),e0,zFP,n2];simp only[bne_self_eq_false,zH,beq_self_eq_true,zI];rw[zF (by omega) (by omega),bs];simp;omega
 simp_all
theorem zCd(c:List Int)(h:VL VU c):zXl c=dS dU:=zDJ c (vu h)
end Go.Pl

namespace Go.Pl
open Go Go.Ab Go.Wk Go.Pc
theorem wG{a b:List Int}(h:a.length≤1000000):f_R a b=dS (a==b):=zFE h
theorem zAx{A B:Mx}(hA:A.length≤1000000)(h:∀r∈A,r.length≤1000000):zG8 A B=dS (A==B):=
 zPv (t:=f_R) (body:=zUT A B) rfl (fun _=>rfl) (by omega) (by grind[wG])
theorem zQG{A:zJ}(hA:A.Rows.length≤1000000)(h:∀r∈A.Rows,r.length≤1000000):zUZ A A=dS dU:=by unfold zUZ;rw[beq_self_eq_true,zI,beq_self_eq_true,zI,zAx hA h,bs,beq_self_eq_true]
structure Die (d:jV):Prop where
 b:∀i(h:i<d.b.length),0≤d.b[i]∧d.b[i]≤255
 l:d.b.length≤68719476736
 i:0≤d.i
theorem zK8{c:List Int}(hb:∀i(h:i<c.length),0≤c[i]∧c[i]≤255)(hl:c.length≤68719476736){n:Int}:Ans (zKR c n) Die:=by
 unfold zKR;refine .bd (P:=fun _=>True) (.lp (fun i s=>s.2=i) c.length rfl fun i s hi hs=>?_) fun r _=>.rt ⟨hb,hl,Jaz _⟩
 unfold zUW;rw[hs];refine .cd (fun h=>?_) fun _=>.rt trivial
 simp only[decide_eq_true_eq]at h;rw[qR (by omega),bs];exact .rg (by omega) (.rt ⟨by omega,by simp only;omega⟩)
theorem zQH{a:Int}:0≤IntKind.wrap .i64 (zC8 .u64 a 16777215)∧IntKind.wrap .i64 (zC8 .u64 a 16777215)≤16777215:=by
 have e:(BitVec.ofInt 64 a &&& BitVec.ofInt 64 16777215).toNat≤16777215:=by rw[BitVec.toNat_and];exact Ht Nat.and_le_right (by decide)
 have:zC8 .u64 a 16777215=((BitVec.ofInt 64 a &&& BitVec.ofInt 64 16777215).toNat:Int):=by
  unfold zC8;show IntKind.wrap .u64 ((BitVec.ofInt 64 a &&& BitVec.ofInt 64 16777215).toNat:Int)=_
  generalize (BitVec.ofInt 64 a &&& BitVec.ofInt 64 16777215).toNat=k at e
  have hb:IntKind.u64.bits=64:=rfl;have hs:IntKind.u64.signed=dV:=rfl;simp only[IntKind.wrap,hb,hs,Jaq]
  grind
 rw[this]
 generalize (BitVec.ofInt 64 a &&& BitVec.ofInt 64 16777215).toNat=k at e
 rw[zAT (by simp[inR];omega)];omega
theorem zIq{d:jV}(hd:Die d){n:Int}(hn:1≤n):Ans (zNi d n) fun r=>0≤r.1∧r.1<n∧Die r.2:=by
 unfold zNi;have ha:=zQH (a:=H6 (IntKind.wrap .u64 ((IntKind.wrap .u64 (d.h*6364136223846793005))+1442695040888963407)) (2 ^ (min (33:Int).toNat (IntKind.bits .u64))));have hi:=hd.i;have hl:=hd.l;refine .cd (fun h=>?_) fun _=>.bd (zD9 (by omega) ha.1) fun v hv=>.rt ⟨hv.1,hv.2,hd.b,hd.l,hd.i⟩
 simp only[decide_eq_true_eq]at h;obtain⟨i,hi⟩:∃i:Nat,d.i=i:=⟨d.i.toNat,by omega⟩;have hb:=hd.b i (by omega);rw[hi,qR (by omega),bs,wr hb];exact .rg (by omega) (.rg (by omega) (.bd (zD9 (by omega) (by omega)) fun v hv=>.rt ⟨hv.1,hv.2,hd.b,hd.l,by simp only;omega⟩))
end Go.Pl

namespace Go.Pl
open Go Go.Ab Go.Wk Go.Pc
theorem zMt{x:SPr}(h:Pres x){v:Vec}(hv:V (suf x 0) v):zLI x.zA v:=by have:=zBm h.os x.zA.length 0 v (by omega) hv;refine⟨this.1,fun i hi=>?_⟩;have:=this.2 i (by omega);rw[Ja]at this;omega
theorem zLI.v{x:SPr}{v:Vec}(hv:zLI x.zA v):V (suf x 0) v:=
 zSC x.zA.length 0 v (by omega) hv.1 fun i hi=>by rw[Ja];exact hv.2 i (by have:=hv.1;omega)
structure IsM (x:SPr) (m:zB) (D:Nat):Prop where
 gr:zCo x
 ok:MOk x.zA.length m D
 rel:zKz x m D
section
variable {x:SPr}{m:zB}{D:Nat} (h:IsM x m D)
 include h
theorem IsM.sp:zG3 x m=dS dU:=by
 have h6:=h.gr.1.os.1;rcases zB7 (x:=x) (m:=m) (by omega)with⟨e,_⟩|⟨_,k⟩
 ·exact e
 ·exact absurd ⟨h.gr,D,h.ok,h.rel⟩ k
theorem IsM.im:f_t x m=dS dU:=by
 have h6:=h.gr.1.os.1;have:=h.ok.len;rcases zB8 (x:=x) (m:=m) (by omega) (by omega)with⟨e,_⟩|⟨_,k⟩
 ·exact e
 ·exact absurd ⟨h.gr,D,h.ok,h.rel⟩ k
theorem IsM.gs:zM1 x=dS dU:=by
 have h6:=h.gr.1.os.1;rcases zEp (x:=x) (by omega)with⟨e,_⟩|⟨_,k⟩
 ·exact e
 ·exact absurd h.gr k
theorem IsM.gi:zM5 x=dS dU:=by
 have h6:=h.gr.1.os.1;rcases qS (x:=x) (by omega)with⟨e,_⟩|⟨_,k⟩
 ·exact e
 ·exact absurd h.gr k
theorem IsM.ei{v:Vec}(hv:V (suf x 0) v):zIx x v=dS dU:=by
 rcases uV (v:=v) h.gr.1.os with⟨e,_⟩|⟨_,k⟩
 ·exact e
 ·exact absurd (zMt h.gr.1 hv) k
theorem IsM.es{v:Vec}(hv:V (suf x 0) v):zKI x v=dS dU:=by
 rcases zCv (v:=v) h.gr.1.os with⟨e,_⟩|⟨_,k⟩
 ·exact e
 ·exact absurd (zMt h.gr.1 hv) k
theorem IsM.vm{a b:Vec}(ha:V (suf x 0) a)(hb:V (suf x 0) b):V (suf x 0) (mul (suf x 0) a b):=xV (ok0 h.gr.1 h.gr.2.1) ha hb
theorem IsM.am{a b:Vec}(ha:V (suf x 0) a)(hb:V (suf x 0) b):zAv m D (mul (suf x 0) a b)=PM m.Prime D (zAv m D a) (zAv m D b):=zP5 h.gr.1 h.ok.b h.rel ha hb
theorem IsM.mat{v:Vec}:Mat m.Prime D (zAv m D v):=zCs (by have:=h.ok.p.pos;omega) _ (sX (by have:=h.ok.p.pos;omega))
theorem IsM.small{v:Vec}(hv:V (suf x 0) v):v.length=x.zA.length∧ ∀i,i<x.zA.length→0≤at0 v i∧at0 v i≤6:=by have:=zBm h.gr.1.os x.zA.length 0 v (by omega) hv;exact⟨this.1,fun i hi=>by have:=this.2 i hi;omega⟩
theorem IsM.act_i{v:Vec}(hv:V (suf x 0) v):(f_w v).bind (fun r4=>zMD m r4)=dS (zJ.mk m.Prime (D:Int) (zAv m D v)):=by have h6:=h.gr.1.os.1;obtain⟨n1,n2⟩:=zTe h.gr.1 h.gr.2.2.n6 (zMt h.gr.1 hv);rw[n1,bs,zB6 h.ok h6 (fun w hw=>zGo 0 v (by have:=(h.small hv).1;omega) w hw) (by omega)];rfl
theorem IsM.act_s{v:Vec}(hv:V (suf x 0) v):f_O m v=dS (zAv m D v):=by obtain⟨s1,s2⟩:=h.small hv;exact zHN h.ok h.gr.1.os.1 s1 s2
theorem IsM.ActionOf_i{v:Vec}(hv:V (suf x 0) v):zRt x m v=dS (zJ.mk m.Prime (D:Int) (zAv m D v),0):=by
 have:=h.act_i hv;unfold zRt;rw[h.im,bs,J3,zH,h.ei hv,bs,J3,zH];cases e:f_w v with
 |none=>rw[e]at this;cases this
 |some w=>rw[e,bs]at this;rw[bs,this,bs]
theorem IsM.ActOn_i{v:Vec}{r:List Int}(hv:V (suf x 0) v)(hr:Row m.Prime D r):zIH x m r v=dS (xW m.Prime D r (zAv m D v),0):=by
 have:=h.act_i hv;have h3:=h.ok.d3;have pq:zM7 r m.Prime m.Dim=dS dU:=by
  rw[h.ok.d];rcases zAs (r:=r) (D:=D) h.ok.p (by omega)with⟨e,_⟩|⟨_,k⟩
  ·exact e
  ·exact absurd hr k
 unfold zIH;rw[h.im,bs,J3,zH,h.ei hv,bs,J3,zH,pq,bs,J3,zH];cases e:f_w v with
 |none=>rw[e]at this;cases this
 |some w=>rw[e,bs]at this;rw[bs,this,bs,sE h.ok.p (by omega) hr h.mat rfl,bs]
theorem IsM.ActOn_s{v:Vec}{r:List Int}(hv:V (suf x 0) v)(hr:Row m.Prime D r):zKQ x m r v=dS (xW m.Prime D r (zAv m D v),0):=by
 have h3:=h.ok.d3;have pq:zI9 m.Prime (D:Int) r=dS dU:=by
  rcases tY (r:=r) (D:=D) h.ok.p (by omega)with⟨e,_⟩|⟨_,k⟩
  ·exact e
  ·exact absurd hr k
 unfold zKQ;rw[h.sp,bs,J3,zH,h.ok.d,pq,bs,J3,zH,h.es hv,bs,J3,zH,h.act_s hv,bs,zCr h.ok.p (by omega) hr h.mat,bs]
theorem IsM.Mul_i{a b:Vec}(ha:V (suf x 0) a)(hb:V (suf x 0) b):zUX x a b=dS (mul (suf x 0) a b,0):=by
 have l:zE (zFo x [a,b]) 0=dS (.inl ()):=by
  rw[yG];have e0:zFo x [a,b] 0=dS (.inl 1):=by unfold zFo;rw[show decide ((0:Int)<(([a,b]:List (List Int)).length:Int))=dU from rfl,zI,show ixO [a,b] 0=dS a from rfl,bs,h.ei ha,bs,J3,zH];rfl
  have e1:zFo x [a,b] 1=dS (.inl 2):=by unfold zFo;rw[show decide ((1:Int)<(([a,b]:List (List Int)).length:Int))=dU from rfl,zI,show ixO [a,b] 1=dS b from rfl,bs,h.ei hb,bs,J3,zH];rfl
  have e2:zFo x [a,b] 2=dS (.inr (.inl ())):=by unfold zFo;rw[show decide ((2:Int)<(([a,b]:List (List Int)).length:Int))=dV from rfl,zH]
  rw[e0];simp only[];rw[yG,e1];simp only[];rw[yG,e2]
 unfold zUX zZY;rw[h.gi,bs,J3,zH,l,bs];simp only[bs,J3,zH];rw[zZv h.gr.1 h.gr.2.1 ha hb,bs]
theorem IsM.Mul_s{a b:Vec}(ha:V (suf x 0) a)(hb:V (suf x 0) b):zUY x a b=dS (mul (suf x 0) a b,0):=by unfold zUY;rw[h.gs,bs,J3,zH,h.es ha,bs,J3,zH,h.es hb,bs,J3,zH,zJ6 h.gr.1 h.gr.2.1 ha hb,bs]
theorem IsM.draw{β:Type}{Q:β→Prop}{c:List Int}{n:Int}(hb:∀i(h:i<c.length),0≤c[i]∧c[i]≤255)(hl:c.length≤68719476736){f:jV→(Int×Int)→(Int×jV)→(List Int×Int)→Option β}(k:∀d q r v,V (suf x 0) v→Ans (f d q r (v,0)) Q):
  Ans ((zKR c n).bind fun r6=>(zIG x).bind fun r7=>(zNi r6 r7.1).bind fun r8=>(zKS x r8.1).bind fun r9=>f r6 r7 r8 r9) Q:=by
 have h6:=h.gr.1.os.1;refine .bd (zK8 hb hl) fun d hd=>?_
 obtain⟨N,N1,N2,_,N3,_⟩:=sF h.gr.2.2;have hN:zIG x=dS ((N:Int),0):=by
  unfold zIG;rcases wP (x:=x) (by omega)with⟨e,_⟩|⟨_,k⟩
  ·rw[e,bs,J3,zH,zAG h.gr.1.os,bs]
   rcases zLK (os:=x.zA) (i:=x.zA.length) (fun j hj=>h.gr.1.os.2 j hj)with g|g
   ·rw[g.1,N1]
   ·omega
  ·exact absurd h.gr.2.2 k
 have hp:=zB3 (os:=x.zA) (i:=x.zA.length) (fun j hj=>h.gr.1.os.2 j hj);rw[hN,bs];refine .bd (zIq hd (by simp only;omega)) fun r hr=>?_
 obtain⟨e,_,e2,e3⟩:=zBg h.gr.1 (k:=r.1) hr.1 (by omega);have:zKS x r.1=dS (e,0):=by
  unfold zKS;rw[h.gs,bs,J3,zH,N3,bs,zF (by omega) (by omega),bs];rcases tX r.1 0 ((N:Int)-1)with⟨i1,_⟩|⟨_,i2⟩
  ·rw[i1,bs,J3,zH,e2,bs]
  ·exact absurd ⟨hr.1,by have:=hr.2.1;simp only at this;omega⟩ i2
 rw[this,bs];exact k d _ r e e3
end
end Go.Pl

namespace Go.Pl
open Go Go.Ab Go.Wk Go.Pc
theorem zK9{s:zD}{m:zB}(hs:Src s)(hm:DrM m):Ans (zO9 s m) fun r=>Src r.2∧r.1.length≤100∧r.1.length≠0:=by
 have hd:=hm.d;have hp:=hm.p;unfold zO9;refine .bd (P:=fun t=>Src ⟨t.1,t.2.1,t.2.2.1⟩∧t.2.2.2.length≤10∧t.2.2.2.length≠0) (.lp (fun i t=>t.2.2.2.2=i∧Src ⟨t.1,t.2.1,t.2.2.1⟩∧t.2.2.2.1.length=i) m.Dim.toNat ⟨rfl,hs,rfl⟩ fun i t hi ht=>?_) fun t ht=>.bd (yS ht.1 (by omega)) fun r hr=>.cd (fun _=>?_) fun _=>.rt ⟨hr.1,by simp only;omega,ht.2.2⟩
 ·unfold zUS
  refine .cd (fun hl=>.bd (yS ht.2.1 (by omega)) fun r hr=>?_) fun hl=>.rt ⟨ht.2.1,by simp only;omega,by simp only[decide_eq_false_iff_not]at hl;simp only;omega⟩
  simp only[decide_eq_true_eq]at hl;rw[zS (by simp;omega),bs];exact .rg (by omega) (.rt ⟨by omega,by simp only;omega,hr.1,by simp[ht.2.2]⟩)
 ·rw[zS (by simp;omega),bs]
  exact .rt ⟨hr.1,by simp;omega,by simp⟩
theorem zPC{s:zD}{x:SPr}(hs:Src s)(hx:DrP x):Ans (zUV s x) fun r=>Src r.2∧r.1.length≤100:=by
 have hn:=hx.n;unfold zUV;refine .bd (P:=fun t=>Src ⟨t.1,t.2.1,t.2.2.1⟩∧t.2.2.2.length=x.zA.length) (.lp (fun i t=>t.2.2.2.2=i∧Src ⟨t.1,t.2.1,t.2.2.1⟩∧t.2.2.2.1.length=i) x.zA.length ⟨rfl,hs,rfl⟩ fun i t hi ht=>?_) fun t ht=>.bd (yS ht.1 (by omega)) fun r hr=>.cd (fun _=>.cd (fun hl=>.bd (yS hr.1 (by omega)) fun r1 gC=>.cd (fun _=>?_) fun _=>?_) fun _=>?_) fun _=>.rt ⟨hr.1,by simp only;omega⟩
 ·unfold zUU
  rw[ht.1];refine .cd (fun hl=>?_) fun hl=>.rt ⟨ht.2.1,by simp only[decide_eq_false_iff_not]at hl;simp only;omega⟩
  simp only[decide_eq_true_eq]at hl;rw[zZ (by omega),bs];have ho:-100≤at0 x.zA i∧at0 x.zA i≤100:=hx.o _ (zC3 (d:=0) (show i<x.zA.length by omega));refine .bd (yS ht.2.1 (by omega)) fun r hr=>?_
  rw[zS (by simp;omega),bs];exact .rg (by omega) (.rt ⟨by omega,by simp only;omega,hr.1,by simp[ht.2.2]⟩)
 ·simp only[decide_eq_true_eq]at hl
  rw[show(0:Int)=((0:Nat):Int)from rfl,zZ (by omega),bs];refine .bd (zAk gC.1 (by simp) (by simp)) fun r2 gz=>?_
  rw[zZ (by omega),bs];exact .rt ⟨gz.1,by simp;omega⟩
 ·rw[zS (by simp;omega),bs]
  exact .rt ⟨gC.1,by simp;omega⟩
 ·rw[zS (by simp;omega),bs]
  exact .rt ⟨hr.1,by simp;omega⟩
theorem zDA{x:SPr}{m:zB}(hx:DrP x)(hm:DrM m):(∃D,IsM x m D)∨(zG3 x m=dS dV∧f_t x m=dS dV):=by
 have hn:=hx.n;have hl:=hm.l;rcases(zB7 (x:=x) (m:=m) (by omega)).both (zB8 (by omega) (by omega))with⟨_,_,c,D,hD,hr⟩|⟨s1,i1,_⟩
 ·exact .inl ⟨D,c,hD,hr⟩
 ·exact .inr ⟨s1,i1⟩
theorem zMu(c:List Int)(hb:∀i(h:i<c.length),0≤c[i]∧c[i]≤255):zXk c=dS dU:=by
 unfold zXk zZX
 by_cases hl:(c.length:Int)> 4096
 ·rw[zIp,bs,dX hl,zI]
 refine zDi hb (P:=fun r=>DrP r.1∧DrM r.2.1∧r.2.2.1.length≤100∧r.2.2.2.length≤100) (fun s hs e=>by rw[e,bs];exact .bd (zIo hs) fun r hr=>.bd (zK9 hr.2.2 hr.2.1) fun r1 gC=>.bd (zPC gC.1 hr.1) fun r2 gz=>.rt ⟨hr.1,hr.2.1,gC.2.1,gz.2⟩) fun r hr=>?_
 obtain⟨x,m,v,w⟩:=r;obtain⟨hx,hm,hv,hw⟩:=hr;simp only at hx hm hv hw ⊢
 have nl:f_R [] []=dS dU:=wG (by simp);rcases zDA hx hm with⟨D,h⟩|⟨s1,i1⟩
 ·have h3:=h.ok.d3
  rcases uV (v:=w) h.gr.1.os with⟨e1,hE⟩|⟨e1,hE⟩
  ·rcases zAs (r:=v) (D:=D) h.ok.p (by omega)with⟨e2,hR⟩|⟨e2,hR⟩
   ·have hV:=zLI.v hE
    have eu:∀{r:List Int}{A:Mx},(xW m.Prime D r A).length≤1000000:=fun{r A}=>by simp[xW,mkv];omega
    have eM:∀{u:Vec},V (suf x 0) u→u.length≤1000000:=fun hu=>by have:=(h.small hu).1;have:=h.gr.1.os.1;omega
    rw[h.ActOn_i hV hR,bs,h.ActOn_s hV hR,bs];simp only[bne_self_eq_false,zH];rw[wG eu,bs];simp only[beq_self_eq_true,J3,zH];refine(fun⟨r,h1,h2⟩=>h2▸h1:Ans _ (fun r=>r=dU)→_) (h.draw hb (by omega) fun d q r u hu=>?_);have f7:=h.vm hV hu;simp only[h.Mul_i hV hu,h.Mul_s hV hu,bs,bne_self_eq_false,zH,wG (eM f7),beq_self_eq_true,J3,h.ActionOf_i hV,h.ActionOf_i hu,h.ActionOf_i f7];have hA:zXi x m (mul (suf x 0) w u)=dS (zJ.mk m.Prime (D:Int) (zAv m D (mul (suf x 0) w u)),0):=by unfold zXi;rw[h.sp,bs,J3,zH,h.es f7,bs,J3,zH,h.act_s f7,bs,h.ok.d];have hA:=h.mat (v:=mul (suf x 0) w u);unfold zZJ;rw[zBZ (by have:=hA.1;omega) (fun i hi=>by have:=(hA.2 i (by have:=hA.1;omega)).1;omega),bs,bs]
    have hM:zXj (zJ.mk m.Prime (D:Int) (zAv m D w)) (zJ.mk m.Prime (D:Int) (zAv m D u))=dS (zJ.mk m.Prime (D:Int) (zAv m D (mul (suf x 0) w u)),0):=by
     have i1:∀{u:Vec},zOt (zJ.mk m.Prime (D:Int) (zAv m D u))=dS dU:=fun{u}=>by
      rcases zDV (D:=D) (B:=zAv m D u) h.ok.p (by omega) h.mat.1 with⟨e,_⟩|⟨_,k⟩
      ·exact e
      ·exact absurd h.mat k
     unfold zXj;rw[i1,bs,J3,zH,i1,bs,J3,zH,sU rfl,zH,sU (by have:=(h.mat (v:=u)).1;simp only;omega),zH,zDU h.ok.p (by omega) h.mat h.mat,bs,h.am hV hu]
    have hs:=(h.mat (v:=mul (suf x 0) w u)).small (by omega);have like:=zQG (A:=zJ.mk m.Prime (D:Int) (zAv m D (mul (suf x 0) w u))) (by simp only;omega) (fun r hr=>by have:=hs.2 r hr;omega);simp only[hA,hM,bs,bne_self_eq_false,zH,like,J3];have gz:Row m.Prime D (xW m.Prime D v (zAv m D w)):=zBb (by have:=h.ok.p.pos;omega);rw[h.ActOn_i hu gz,bs,h.ActOn_i f7 hR,bs];simp only[beq_self_eq_true,zI];rw[h.am hV hu,zP9 h.mat.1,wG eu,bs,beq_self_eq_true];exact .rt rfl
   ·have e3:zI9 m.Prime (D:Int) v=dS dV:=by
     rcases tY (r:=v) (D:=D) h.ok.p (by omega)with⟨_,k⟩|⟨e,_⟩
     ·exact absurd k hR
     ·exact e
    unfold zIH zKQ;simp only[h.im,h.sp,e1,h.ok.d,e2,e3,bs,J3,Jo,zH,zI,bne_self_eq_false,nl];rfl
  ·have e3:∃r,zKQ x m v w=dS (r,1)∧r=[]:=by
    unfold zKQ;rw[h.sp,bs,J3,zH,h.ok.d];rcases tY (r:=v) (D:=D) h.ok.p (by omega)with⟨e,_⟩|⟨e,_⟩
    ·rcases zCv (v:=w) h.gr.1.os with⟨_,k⟩|⟨e',_⟩
     ·exact absurd k hE
     ·rw[e,bs,J3,zH,e',bs,Jo,zI];exact⟨_,rfl,rfl⟩
    ·rw[e,bs,Jo,zI];exact⟨_,rfl,rfl⟩
   obtain⟨_,e3,rfl⟩:=e3;unfold zIH;simp only[h.im,e1,e3,bs,J3,Jo,zH,zI,bne_self_eq_false,nl];rfl
 ·unfold zIH zKQ
  simp only[s1,i1,bs,J3,Jo,zH,zI,bne_self_eq_false,nl];rfl
theorem zG1(c:List Int)(h:VL VU c):zXk c=dS dU:=zMu c (vu h)
end Go.Pl

namespace Go.Pl
open Go Go.Ab Go.Wk Go.Pc
end Go.Pl

namespace Go.Pl
open Go Go.Ab Go.Wk Go.Pc
def dbk(D:Nat)(A:Mx)(r:List Int):Mx:=(gl D fun i=>A.getD i []++[0])++[r++[1]]
theorem zDB{D:Nat}{A:Mx}{r:List Int}:(dbk D A r).length=D+1:=by simp[dbk,gl]
theorem zAl{D i:Nat}{A:Mx}{r:List Int}:(dbk D A r).getD i []=if i<D then A.getD i []++[0]else if i=D then r++[1]else[]:=by
 unfold dbk gl;rw[J4,Kd]
 by_cases h:i<D
 ·simp[h]
 ·by_cases e:i=D
  ·subst e;simp
  ·rw[if_neg (by simpa using h),if_neg h,if_neg e,Qp (by simp;omega)];rfl
theorem jN{r:List Int}{D j:Nat}{a:Int}(h:r.length=D):at0 (r++[a]) j=if j<D then at0 r j else if j=D then a else 0:=by
 rw[zBw,h]
 by_cases e:j<D
 ·simp[e]
 ·by_cases e':j=D
  ·subst e';simp
  ·rw[if_neg e,if_neg e,if_neg e',at0,J4,Qp (by simp;omega)];rfl
section
variable {p:Int} (hp:2≤p) {D:Nat}
 include hp
theorem zMv{r:List Int}(hr:Row p D r){a:Int}(ha:a=0∨a=1):Row p (D+1) (r++[a]):=by
 refine⟨by rw[J7,hr.1];rfl,fun i hi=>?_⟩;rw[jN hr.1]
 by_cases e:i<D
 ·rw[if_pos e];exact hr.2 i e
 ·rw[if_neg e,if_pos (by omega)];omega
theorem zPD{A:Mx}{r:List Int}(hA:Mat p D A)(hr:Row p D r):Mat p (D+1) (dbk D A r):=by
 refine⟨zDB,fun i hi=>?_⟩;rw[zAl]
 by_cases e:i<D
 ·rw[if_pos e];exact zMv hp (hA.2 i e) (.inl rfl)
 ·rw[if_neg e,if_pos (by omega)];exact zMv hp hr (.inr rfl)
 omit hp in
 theorem zMw{r w:List Int}{c:Int}{B:Mx}(hr:r.length=D)(hB:Mat p D B)(hw:Row p D w):xW p (D+1) (r++[c]) (dbk D B w)=(mkv D fun j=>(at0 (xW p D r B) j+c*at0 w j)%p)++[c%p]:=by
  have e:∀f:Nat→Int,mkv (D+1) f=mkv D f++[f D]:=fun f=>by simp[mkv,K9]
  rw[xW,e]
  congr 1
  · refine yC fun j hj=>?_
    show(S D _+_)%p=_;rw[xW,zT hj,Lq]
    congr 2
    · refine xP fun l hl=>?_
      rw[jN hr,if_pos hl,ent,zAl,if_pos hl,jN (hB.2 l hl).1,if_pos hj]
    · dsimp only
      rw[jN hr,if_neg (by omega),if_pos rfl,ent,zAl,if_neg (by omega),if_pos rfl,jN hw.1,if_pos hj]
  · congr 1
    show(S D _+_)%p=_;rw[xP (g:=fun _=>0) fun l hl=>by rw[jN hr,if_pos hl,ent,zAl,if_pos hl,jN (hB.2 l hl).1,if_neg (by omega),if_pos rfl,Lp],qD];dsimp only
    rw[jN hr,if_neg (by omega),if_pos rfl,ent,zAl,if_neg (by omega),if_pos rfl,jN hw.1,if_neg (by omega),if_pos rfl,Lo,Ku]
theorem zIr{A B:Mx}{u w:List Int}(hA:Mat p D A)(hB:Mat p D B)(hu:Row p D u)(hw:Row p D w):PM p (D+1) (dbk D A u) (dbk D B w)=dbk D (PM p D A B) (adv p D (xW p D u B) w):=by
  refine zCq (D:=D+1) (by rw[vT,zDB]) zDB fun i hi=>?_
  rw[zCp (by rw[zDB];exact hi),zAl,zAl]
  by_cases e:i<D
  · rw[if_pos e,if_pos e,zMw (hA.2 i e).1 hB hw,zCp (by rw[hA.1];exact e)]
    have hr:Row p D (xW p D (A.getD i []) B):=zBb (by omega)
    congr 1
    conv=>rhs;rw[vO hr.1]
    exact yC fun j hj=>by rw[Gx,Lb,vL (hr.2 j hj)]
  · rw[if_neg e,if_neg e,if_pos (by omega),if_pos (by omega),zMw hu.1 hB hw]
    congr 1
    ·exact yC fun j hj=>by rw[Kl]
    ·rw[Jr (by omega) (by omega)]
 omit hp in
 theorem zZ1:dbk D (idM D) (z0 D)=idM (D+1):=by
  refine zCq (D:=D+1) zDB (uP _) fun i hi=>?_
  rw[zAl,zAI hi];have e:∀f:Nat→Int,mkv (D+1) f=mkv D f++[f D]:=fun f=>by simp[mkv,K9]
  by_cases h:i<D
  ·rw[if_pos h,zAI h,e,if_neg (by omega)]
  · obtain rfl:i=D:=by omega
    rw[if_neg h,if_pos rfl,e,if_pos rfl,z0,uW]
    congr 1
    exact yC fun j hj=>by rw[if_neg (by omega)]
end
structure IsD (x:SPr) (m:zB) (D:Nat) (vals:Mx):Prop extends IsM x m D where
 vo:VOk x.zA.length m.Prime D vals
 rd:zHR x m D vals
def mdb(m:zB)(n D:Nat)(vals:Mx):zB:=⟨m.Prime,(D+1:Nat),gl n fun i=>dbk D (m.zG.getD i []) (vals.getD i [])⟩
section
variable {x:SPr}{m:zB}{D:Nat}{vals:Mx} (h:IsD x m D vals)
 include h
theorem IsD.ev{ws:List Nat}:Row m.Prime D (ev m D vals (z0 D) ws):=zB9 h.ok h.gr.1.os.1 h.vo (kI (by have:=h.ok.p.pos;omega)) ws
theorem IsD.key(ws:List Nat):∀(B:Mx)(u:List Int),(∀w∈ws,w<x.zA.length)→Mat m.Prime D B→Row m.Prime D u→wM m.Prime (D+1) (mdb m x.zA.length D vals).zG ws (dbk D B u)=dbk D (wM m.Prime D m.zG ws B) (Go.Pl.ev m D vals u ws):=by
 have hp:=h.ok.p.pos
 induction ws with
 |nil=>intro B u _ _ _;rfl
 |cons w ws ih=>
  intro B u hw hB hu;have cb:=hw w (by simp);have hm:=h.ok.mat w cb;have e1:(mdb m x.zA.length D vals).zG.getD w []=dbk D (m.zG.getD w []) (vals.getD w []):=by simp[mdb,gl,cb]
  have e2:stp m D vals u w=adv m.Prime D (xW m.Prime D u (m.zG.getD w [])) (vals.getD w []):=by unfold stp wQ;exact yC fun j _=>by rw[Kl]
  show wM _ _ _ ws (PM _ _ (dbk D B u) _)=dbk D (wM _ _ _ ws (PM _ _ B _)) (Go.Pl.ev m D vals (stp m D vals u w) ws);rw[e1,zIr hp.1 hB hm hu (h.vo.2 w cb),e2];exact ih _ _ (fun a ha=>hw a (by simp[ha])) (zDa (by omega) hB.1) (zP8 (by omega))
theorem IsD.word{ws:List Nat}(hw:∀w∈ws,w<x.zA.length):wM m.Prime (D+1) (mdb m x.zA.length D vals).zG ws (idM (D+1))=dbk D (wM m.Prime D m.zG ws (idM D)) (Go.Pl.ev m D vals (z0 D) ws):=by have hp:=h.ok.p.pos;rw[←zZ1];exact h.key ws _ _ hw (sX (by omega)) (kI (by omega))
theorem IsD.aff{ws:List Nat}(hw:∀w∈ws,w<x.zA.length){u:List Int}(hu:Row m.Prime D u):Go.Pl.ev m D vals u ws=adv m.Prime D (xW m.Prime D u (wM m.Prime D m.zG ws (idM D))) (Go.Pl.ev m D vals (z0 D) ws):=by have hp:=h.ok.p.pos;have hI:=sX (p:=m.Prime) (D:=D) (by omega);have hW:=zCs (p:=m.Prime) (D:=D) (A:=m.zG) (by omega) ws hI;have e1:=h.key ws _ _ hw hI hu;rw[←zHK (zPD hp.1 hI hu),zNF (by omega) zDB ws (sX (by omega)),h.word hw,zIr hp.1 hI hW hu h.ev]at e1;have e2:=congrArg (fun M:Mx=>M.getD D []) e1;simp only[zAl,Ja4,if_false,if_true]at e2;exact(Uh e2).symm
theorem IsD.relb:zKz x (mdb m x.zA.length D vals) (D+1):=by
 have hp:=h.ok.p.pos;have h6:=h.gr.1.os.1;intro i hi;have hR:=h.rel i hi;have wl:∀{v:List Int},v.length=x.zA.length→ ∀w∈nw 0 v,w<x.zA.length:=fun hv w hw=>zGo 0 _ (by omega) w hw
 have cu:=zEx h.gr.1 hi;have gI:=zFW h.gr.1 hi;refine⟨?_,fun j hj f9=>?_⟩
 ·show wM m.Prime (D+1) _ _ _=wM m.Prime (D+1) _ _ _
  rw[h.word (fun w hw=>by have:=(List.mem_replicate.1 hw).2;omega),h.word (wl cu),hR.1]
  congr 1
  exact h.rd (r1 x i) (by simp only[xN,Jv,Je,Jx];exact .inl ⟨i,hi,rfl⟩)
 ·have eu:=zEy h.gr.1 hi (show j-(i+1)+i+1<x.zA.length by omega)
  show PM m.Prime (D+1) _ _=PM m.Prime (D+1) _ (wM m.Prime (D+1) _ _ _);have hd:=h.rd (r2 x i (j-(i+1))) (by simp only[xN,Jv,G6,Jx,R2,Je];exact .inr ⟨i,hi,j-(i+1),by omega,rfl⟩)
  have hM:=hR.2 j hj f9;have e1:∀{w:Nat},w<x.zA.length→(mdb m x.zA.length D vals).zG.getD w []=dbk D (m.zG.getD w []) (vals.getD w []):=fun hw=>by simp[mdb,gl,hw]
  have hW:=zCs (p:=m.Prime) (D:=D) (A:=m.zG) (by omega) (nw 0 ((x.zC.getD i []).getD (j-(i+1)) [])) (sX (by omega));have ad:∀{u:List Int}{w:Nat},stp m D vals u w=adv m.Prime D (xW m.Prime D u (m.zG.getD w [])) (vals.getD w []):=by intro u w;unfold stp wQ;exact yC fun j _=>by rw[Kl]
  have s0:∀{w:Nat},w<x.zA.length→stp m D vals (z0 D) w=vals.getD w []:=fun{w} hw=>by rw[ad,show xW m.Prime D (z0 D) (m.zG.getD w [])=zeros D from zC1,qF (h.vo.2 w hw)]
  rw[e1 f9,e1 hi,h.word (wl eu),zIr hp.1 (h.ok.mat j f9) (h.ok.mat i hi) (h.vo.2 j f9) (h.vo.2 i hi),zIr hp.1 (h.ok.mat i hi) hW (h.vo.2 i hi) h.ev,hM]
  congr 1
  have l:Go.Pl.ev m D vals (z0 D) (r2 x i (j-(i+1))).1=adv m.Prime D (xW m.Prime D (vals.getD j []) (m.zG.getD i [])) (vals.getD i []):=by show stp m D vals (stp m D vals (z0 D) (i+(j-(i+1))+1)) i=_;rw[show i+(j-(i+1))+1=j from by omega,s0 f9,ad]
  have r:Go.Pl.ev m D vals (z0 D) (r2 x i (j-(i+1))).2=Go.Pl.ev m D vals (vals.getD i []) (nw 0 ((x.zC.getD i []).getD (j-(i+1)) [])):=by show Go.Pl.ev m D vals (stp m D vals (z0 D) i) _=_;rw[s0 hi]
  rw[←l,hd,r,h.aff (wl eu) (h.vo.2 i hi)]
def evd(m:zB)(D:Nat)(vals:Mx)(v:Vec):List Int:=Go.Pl.ev m D vals (z0 D) (nw 0 v)
theorem IsD.mul{a b:Vec}(ha:V (suf x 0) a)(hb:V (suf x 0) b):evd m D vals (Pc.mul (suf x 0) a b)=adv m.Prime D (xW m.Prime D (evd m D vals a) (zAv m D b)) (evd m D vals b):=by
 have hp:=h.ok.p.pos;have h3:=h.ok.d3;have d8:zZn x.zA.length (mdb m x.zA.length D vals) (D+1):=⟨h.ok.p,by omega,wC,fun i hi=>by rw[show(mdb m x.zA.length D vals).zG.getD i []=dbk D (m.zG.getD i []) (vals.getD i [])from by simp[mdb,gl,hi]];exact zPD hp.1 (h.ok.mat i hi) (h.vo.2 i hi)⟩
 have hw:∀{v:Vec},V (suf x 0) v→ ∀w∈nw 0 v,w<x.zA.length:=fun hv w hw=>zGo 0 _ (by have:=(h.small hv).1;omega) w hw
 have e:=zP5 h.gr.1 d8 h.relb ha hb;have c8:=h.vm ha hb;have hM:=fun v=>h.mat (v:=v)
 unfold zAv at e hM;rw[show(mdb m x.zA.length D vals).Prime=m.Prime from rfl,h.word (hw c8),h.word (hw ha),h.word (hw hb),zIr hp.1 (hM a) (hM b) h.ev h.ev]at e;have e2:=congrArg (fun M:Mx=>M.getD D []) e;simp only[zAl,Ja4,if_false,if_true]at e2;exact Uh e2
end
end Go.Pl

namespace Go.Pl
open Go Go.Ab Go.Wk Go.Pc
theorem zPE{s:zD}{r:SPr×zB×zD}(hs:Src s)(hx:DrP r.1)(hm:DrM r.2.1):Ans (zE (zXm r) (s.code,s.at_,s.seed,[],0)) fun t=>Src ⟨t.1,t.2.1,t.2.2.1⟩∧t.2.2.2.length=r.1.zA.length:=by
 have hn:=hx.n;refine .lp (fun i t=>t.2.2.2.2=i∧Src ⟨t.1,t.2.1,t.2.2.1⟩∧t.2.2.2.1.length=i) r.1.zA.length ⟨rfl,hs,rfl⟩ fun i t hi ht=>?_
 unfold zXm;refine .cd (fun hl=>.bd (zK9 ht.2.1 hm) fun v hv=>?_) fun hl=>.rt ⟨ht.2.1,by simp only[decide_eq_false_iff_not]at hl;simp only;omega⟩
 simp only[decide_eq_true_eq]at hl;rw[zS (by simp;omega),bs];exact .rg (by omega) (.rt ⟨by omega,by simp only;omega,hv.1,by simp[ht.2.2]⟩)
theorem zWn{s:zD}{r:SPr×zB×zD}{K:Mx}{N:Nat}(hs:Src s)(hp:Prime r.2.1.Prime)(hN:N≤1000)(hK:∀i,i<K.length→Row r.2.1.Prime N (K.getD i []))(hl:K.length≤1000):Ans (zE (zVa r K) (s.code,s.at_,s.seed,J1 N (0:Int),0)) fun t=>Src ⟨t.1,t.2.1,t.2.2.1⟩∧Row r.2.1.Prime N t.2.2.2:=by
 have h7:=hp.pos;refine .lp (fun i t=>t.2.2.2.2=i∧Src ⟨t.1,t.2.1,t.2.2.1⟩∧Row r.2.1.Prime N t.2.2.2.1) K.length ⟨rfl,hs,kI (by omega)⟩ fun i t hi ht=>?_
 unfold zVa;rw[ht.1];refine .cd (fun hl=>.bd (yS ht.2.1 (by omega)) fun v hv=>?_) fun hl=>.rt ⟨ht.2.1,ht.2.2⟩
 simp only[decide_eq_true_eq]at hl;rw[zR [] (by omega),bs,tC hp ht.2.2 (hK i (by omega)) (by omega) (by omega),bs];exact .rg (by omega) (.rt ⟨by omega,by simp only;omega,hv.1,qU hp⟩)
theorem zIs{s:zD}(hs:Src s){n:Int}:Ans (f_H s n) fun r=>DrP r.1∧DrM r.2.1∧r.2.2.1.length≤100∧Src r.2.2.2:=by
 unfold f_H;refine .bd (zIo hs) fun r hr=>?_
 obtain⟨x,m,t⟩:=r;obtain⟨hx,hm,ht⟩:=hr;simp only at hx hm ht;have hn:=hx.n;rcases zDA hx hm with⟨D,h⟩|⟨s1,_⟩
 ·have h3:=h.ok.d3
  have h1:=h.ok.d1;have h7:=h.ok.p.pos;have h6:=h.gr.1.os.1;have eO:x.zA.length*D≤14*3:=Jy h6 h3;obtain⟨K,pk,k1,_,k3⟩:=zId h.gr.1 h.ok;have hK:=k3.len_le;have fin:∀{t:zD},Src t→Ans (
     (rng ((x.zA.length:Int)*m.Dim)).bind fun v16=>
     (zV v16).bind fun m17=>
     (zMY x m).bind fun r18=>
     (zE (zVa (x,m,t) r18) (t.code,t.at_,t.seed,J1 m17 (0:Int),0)).bind fun r23=>
     (zKK r23.2.2.2 m.Dim).bind fun r24=>
     (f_e (zD.mk r23.1 r23.2.1 r23.2.2.1) 16).bind fun r25=>
     cond (r25.1==0) (
      (zV m.Dim).bind fun m26=>
      (zX r24 [J1 m26 (0:Int)]).bind fun v27=>
      dS (x,m,v27,r25.2)) (
      dS (x,m,r24,r25.2))) fun r=>DrP r.1∧DrM r.2.1∧r.2.2.1.length≤100∧Src r.2.2.2:=fun{t} ht=>by
   rw[h.ok.d,show(x.zA.length:Int)*(D:Int)=((x.zA.length*D:Nat):Int)from by simp,zF (by omega) (by omega),bs,yF (by omega),bs,k1,bs];refine .bd (zWn (r:=(x,m,t)) ht h.ok.p (by omega) k3.row (by omega)) fun u hu=>?_
   rw[zIb h1 (by omega) hu.2.1 (by omega),bs];have hc:(zBA x.zA.length D u.2.2.2).length=x.zA.length:=by simp[zBA]
   refine .bd (yS hu.1 (by omega)) fun r hr=>.cd (fun _=>?_) fun _=>.rt ⟨hx,hm,by simp only;omega,hr.1⟩
   rw[yF (by omega),bs,zS (by rw[hc,Jb];omega),bs];exact .rt ⟨hx,hm,by simp only[J7,Jb];omega,hr.1⟩
  rw[h.sp,bs,J3,zH];refine .bd (yS ht (by omega)) fun r hr=>.cd (fun _=>.bd (zPE (r:=(x,m,t)) hr.1 hx hm) fun u hu=>.rt ⟨hx,hm,by simp only at hu ⊢;omega,hu.1⟩) fun _=>.bd (yS hr.1 (by omega)) fun r1 gC=>.cd (fun _=>.bd (zK9 gC.1 hm) fun v hv=>?_) fun _=>fin gC.1
  simp only[h.ok.d];rcases tY (r:=v.1) (D:=D) h.ok.p (by omega)with⟨e,hR⟩|⟨e,_⟩
  ·rw[e,bs,zI,zEt h.ok h6 hR,bs]
   exact .rt ⟨hx,hm,by have:=zEZ h.ok h6 (v:=v.1);simp only;omega,hv.1⟩
  ·rw[e,bs,zH]
   have:=fin hv.1;rw[h.ok.d]at this;exact this
 ·rw[s1,bs,Jo,zI]
  exact .bd (zPE (r:=(x,m,t)) ht hx hm) fun u hu=>.rt ⟨hx,hm,by simp only at hu ⊢;omega,hu.1⟩
section
variable {x:SPr}{m:zB}{D:Nat}{vals:Mx}
theorem zDC(h:IsM x m D)(hV:VOk x.zA.length m.Prime D vals):zOz x m vals=dS dU∧(zHR x m D vals→zG6 x m vals=dS 0)∧(¬zHR x m D vals→zG6 x m vals=dS 5):=by
 have d3:=h.ok.d3;have h6:=h.gr.1.os.1;have w1:zOz x m vals=dS dU:=by
  rcases zBu (x:=x) h.ok.p h.ok.d (by omega) (vals:=vals) (by have:=hV.1;omega)with⟨e,_⟩|⟨_,k⟩
  ·exact e
  ·exact absurd hV k
 have hd:=zNI h.gr.1 h.ok hV;refine⟨w1,fun hR=>?_,fun hR=>?_⟩
 ·rcases hd with⟨u1,_⟩|⟨_,k⟩
  ·unfold zG6
   rw[h.im,bs,J3,zH,w1,bs,J3,zH];rw[zAK h.gr.1 h.ok hV,bs]at u1 ⊢
   cases hcc:f_E ((xN x).map (dfc m D vals))with
   |none=>rw[hcc]at u1;cases u1
   |some fl=>rw[hcc,bs]at u1;rw[bs,u1,bs,J3,zH]
  ·exact absurd hR k
 ·rcases hd with⟨_,k⟩|⟨u1,_⟩
  ·exact absurd k hR
  ·unfold zG6
   rw[h.im,bs,J3,zH,w1,bs,J3,zH];rw[zAK h.gr.1 h.ok hV,bs]at u1 ⊢
   cases hcc:f_E ((xN x).map (dfc m D vals))with
   |none=>rw[hcc]at u1;cases u1
   |some fl=>rw[hcc,bs]at u1;rw[bs,u1,bs,Jo,zI]
theorem zDD(h:IsM x m D)(hV:VOk x.zA.length m.Prime D vals):(zHR x m D vals→zG4 x m vals=dS 0)∧(¬zHR x m D vals→zG4 x m vals=dS 5):=by
 have d3:=h.ok.d3;have h6:=h.gr.1.os.1;have w1:zUg x m vals=dS dU:=by
  rcases zDd (x:=x) h.ok.p h.ok.d (by omega) (vals:=vals) (by have:=hV.1;omega)with⟨e,_⟩|⟨_,k⟩
  ·exact e
  ·exact absurd hV k
 unfold zG4;rw[h.sp,bs,J3,zH,w1,bs,J3,zH];rcases zSI h.gr.1 h.ok hV with⟨e,k⟩|⟨e,k⟩
 ·rw[e,bs,J3,zH];exact⟨fun _=>rfl,fun n=>absurd k n⟩
 ·rw[e,bs,Jo,zI];exact⟨fun n=>absurd n k,fun _=>rfl⟩
theorem IsD.at_i(h:IsD x m D vals){e:Vec}(he:V (suf x 0) e):zG7 x m vals e=dS (evd m D vals e,0):=by obtain⟨w1,c1,_⟩:=zDC h.toIsM h.vo;have h6:=h.gr.1.os.1;obtain⟨n1,n2⟩:=zTe h.gr.1 h.gr.2.2.n6 (zMt h.gr.1 he);unfold zG7;rw[h.im,bs,J3,zH,w1,bs,J3,zH,h.ei he,bs,J3,zH,c1 h.rd,bs,sU rfl,zH,n1,bs,zAJ h.ok h6 h.vo (fun w hw=>zGo 0 e (by have:=(h.small he).1;omega) w hw) (by omega),bs];rfl
theorem IsD.at_s(h:IsD x m D vals){e:Vec}(he:V (suf x 0) e):zG5 x m vals e=dS (evd m D vals e,0):=by have c1:=(zDD h.toIsM h.vo).1 h.rd;have h6:=h.gr.1.os.1;have d3:=h.ok.d3;obtain⟨q1,q2⟩:=h.small he;unfold zG5;rw[h.sp,bs,J3,zH,h.es he,bs,J3,zH,c1,bs,sU rfl,zH,h.ok.d,yF (by omega),bs,zBt h.ok h6 h.vo (kI (by have:=h.ok.p.pos;omega)) q1 q2,bs];rfl
theorem zTo(hx:DrP x)(hm:DrM m)(eM:vals.length≤1048576){e:List Int}:(∃D,IsD x m D vals∧V (suf x 0) e)∨ ∃k,k≠0∧zG5 x m vals e=dS ([],k)∧zG7 x m vals e=dS ([],k):=by
 rcases zDA hx hm with⟨D,h⟩|⟨s1,i1⟩
 ·have d3:=h.ok.d3
  rcases(zCv (v:=e) h.gr.1.os).both (uV h.gr.1.os)with⟨a1,b1,hE⟩|⟨a1,b1,hE⟩
  ·rcases(zDd (x:=x) h.ok.p h.ok.d (by omega) eM).both (zBu (x:=x) h.ok.p h.ok.d (by omega) eM)with⟨v1,w1,hV⟩|⟨v1,w1,hV⟩
   ·by_cases hR:zHR x m D vals
    ·exact .inl ⟨D,⟨h,hV,hR⟩,hE.v⟩
    ·refine .inr ⟨5,by omega,?_,?_⟩
     ·unfold zG5
      rw[h.sp,bs,J3,zH,a1,bs,J3,zH,(zDD h hV).2 hR,bs];rfl
     ·unfold zG7
      rw[h.im,bs,J3,zH,w1,bs,J3,zH,b1,bs,J3,zH,(zDC h hV).2.2 hR,bs];rfl
   ·refine .inr ⟨1,by omega,?_,?_⟩
    ·unfold zG5 zG4
     rw[h.sp,bs,J3,zH,a1,bs];simp only[J3,zH,bs,v1,Jo,zI];rfl
    ·unfold zG7
     rw[h.im,bs,J3,zH,w1,bs];rfl
  ·refine .inr ⟨1,by omega,?_,?_⟩
   ·unfold zG5
    rw[h.sp,bs,J3,zH,a1,bs];rfl
   ·unfold zG7
    rw[h.im,bs,J3,zH];rcases zBu (x:=x) h.ok.p h.ok.d (by omega) eM with⟨w1,_⟩|⟨w1,_⟩
    ·rw[w1,bs,J3,zH,b1,bs];rfl
    ·rw[w1,bs];rfl
 ·refine .inr ⟨1,by omega,?_,?_⟩
  ·unfold zG5;rw[s1,bs];rfl
  ·unfold zG7;rw[i1,bs];rfl
end
theorem zJB{p:Int}(hp:Prime p){D:Nat}(hD:D≤1000){u v:List Int}(hu:Row p D u)(hv:Row p D v):zVb p u 1 v=dS (adv p D u v):=by
 have h7:=hp.pos;unfold zVb;rw[vV (body:=zNj p u 1 v) D (fun j=>(at0 u j+at0 v j)%p) (fun i acc hi ha=>by
  have a:=hu.2 i hi;have b:=hv.2 i hi;have cW:=hu.1;have eM:=hv.1;have e1:=Ke (at0 u i+at0 v i) (show p≠0 by omega);have e2:=K4 (at0 u i+at0 v i) (show 0<p by omega);unfold zNj;simp only
  rw[cW,yJ hi,zI,zZ (by omega),bs,zZ (by omega),bs,Kl,zF (by omega) (by omega),bs,zF (by omega) (by omega),bs,yL,if_neg (by omega),bs,Kb (by omega),zF (by omega) (by omega),bs,yL,if_neg (by omega),bs,Kb (by omega),U9,Ju,zS (by simp;omega),bs,zF (by omega) (by omega),bs,cs]) (fun acc=>by
  have cW:=hu.1;unfold zNj;simp[cW]),bs]
 rfl
theorem zG2(c:List Int)(hb:∀i(h:i<c.length),0≤c[i]∧c[i]≤255):zXn c=dS dU:=by
 unfold zXn yAa
 by_cases hl:(c.length:Int)> 4096
 ·rw[zIp,bs,dX hl,zI]
 refine zDi hb (P:=fun r=>DrP r.1∧DrM r.2.1∧r.2.2.1.length≤100∧r.2.2.2.length≤100) (fun s hs e=>by rw[e,bs];exact .bd (zIs hs) fun r hr=>.bd (zPC hr.2.2.2 hr.1) fun r2 gz=>.rt ⟨hr.1,hr.2.1,hr.2.2.1,gz.2⟩) fun r hr=>?_
 obtain⟨x,m,vals,e⟩:=r;obtain⟨hx,hm,hv,hw⟩:=hr;simp only at hx hm hv hw ⊢
 have nl:f_R [] []=dS dU:=wG (by simp);rcases zTo hx hm (show vals.length≤1048576 by omega) (e:=e)with⟨D,h,hV⟩|⟨k,hk,s1,i1⟩
 ·have h3:=h.ok.d3
  have h7:=h.ok.p.pos;have eu:∀{u:Vec},Row m.Prime D (evd m D vals u):=h.ev;have fp:∀{u:Vec},(evd m D vals u).length≤1000000:=fun{u}=>by have:=(eu (u:=u)).1;omega
  have eM:∀{u:Vec},V (suf x 0) u→u.length≤1000000:=fun hu=>by have:=(h.small hu).1;have:=h.gr.1.os.1;omega
  rw[h.at_i hV,bs,h.at_s hV,bs];simp only[bne_self_eq_false,zH];rw[wG fp,bs];simp only[beq_self_eq_true,J3,zH];refine(fun⟨r,h1,h2⟩=>h2▸h1:Ans _ (fun r=>r=dU)→_) (h.draw hb (by omega) fun d q r u hu=>?_);have f7:=h.vm hV hu;have hra:Row m.Prime D (xW m.Prime D (evd m D vals e) (zAv m D u)):=zBb (by omega);have aE:(xW m.Prime D (evd m D vals e) (zAv m D u)).length≤1000000:=by have:=hra.1;omega
  simp only[h.Mul_i hV hu,h.Mul_s hV hu,bs,bne_self_eq_false,zH,wG (eM f7),beq_self_eq_true,J3,h.at_i hu,h.at_i f7,h.at_s hu,h.ActOn_i hu eu,h.ActOn_s hu eu,wG fp,wG aE,zJB h.ok.p (show D≤1000 by omega) hra eu,h.mul hV hu];have:(adv m.Prime D (xW m.Prime D (evd m D vals e) (zAv m D u)) (evd m D vals u)).length≤1000000:=by rw[yB];omega
  rw[wG this,bs];simp only[beq_self_eq_true];exact .rt rfl
 ·rw[i1,bs,s1,bs]
  simp only[bne_self_eq_false,zH,nl,bs,J3,tI hk,zI]
theorem zDK(c:List Int)(h:VL VU c):zXn c=dS dU:=zG2 c (vu h)
end Go.Pl

namespace Go.Pl
open Go Go.Ab Go.Wk Go.Pc
end Go.Pl

namespace Go.Pl
open Go Go.Ab Go.Wk Go.Pc
end Go.Pl

namespace Go.Pl
open Go Go.Ab Go.Wk Go.Pc
section
variable {n D:Nat}{x:SPr}{m:zB}{T:Mx} (h1:1≤D) (h3:D≤3) (hx:Pres x) (hT:∀i,i<T.length→(T.getD i []).length=D)
 include h3
 include hx hT
 include h1
end
end Go.Pl

namespace Go.Pl
open Go Go.Ab Go.Wk Go.Pc
theorem zOg{p:Int}(hp:Prime p){n:Nat}(hn:n≤100000){R:Mx}{pv:Nat→Nat}(h:Red p n R pv){v:List Int}(hv:Row p n v):Sp p n R (mkv n fun j=>at0 (cl p n R pv v R.length) j-at0 v j):=by
 obtain⟨cf,eP⟩:=zGQ hp hn h hv R.length (Jd _);refine⟨cf,fun j hj=>?_⟩;rw[zT hj,Gy,eP j hj,←Gy]
 congr 1
 omega
section
variable {p:Int}{D:Nat}
theorem zWo{u v:List Int}:wQ p D u (-1) v=adv p D u (mkv D fun j=>(-1*at0 v j)%p):=by unfold wQ;exact yC fun j hj=>by rw[zT hj,Int.add_emod_emod]
end
section
variable {x:SPr}{m:zB}{D:Nat}
def zWp(m:zB)(n D:Nat)(vals:Mx)(v:List Int):Mx:=gl n fun i=>adv m.Prime D (vals.getD i []) ((inn m n D v).getD i [])
theorem zPF{n i:Nat}{v:List Int}(hi:i<n):(inn m n D v).getD i []=wQ m.Prime D (xW m.Prime D v (m.zG.getD i [])) (-1) v:=by simp[inn,hi]
theorem zZ2(h:IsM x m D){vals:Mx}{v:List Int}{V:Mx}(hV:∀i,i<x.zA.length→V.getD i []=adv m.Prime D (vals.getD i []) ((inn m x.zA.length D v).getD i [])):∀(ws:List Nat)(u u':List Int)(B:Mx),(∀w∈ws,w<x.zA.length)→Mat m.Prime D B→u'=adv m.Prime D u (wQ m.Prime D (xW m.Prime D v B) (-1) v)→ev m D V u' ws=adv m.Prime D (ev m D vals u ws) (wQ m.Prime D (xW m.Prime D v (wM m.Prime D m.zG ws B)) (-1) v):=by
 intro ws
 induction ws with
 |nil=>intro u u' B _ _ e;exact e
 |cons w ws ih=>
  intro u u' B hw hB e;have cb:=hw w (by simp);have hA:=h.ok.mat w cb;refine ih (stp m D vals u w) (stp m D V u' w) (PM m.Prime D B (m.zG.getD w [])) (fun a ha=>hw a (by simp[ha])) (zDa (by have:=h.ok.p.pos;omega) hB.1) ?_;have st:∀(Z:Mx)(a:List Int),stp m D Z a w=adv m.Prime D (xW m.Prime D a (m.zG.getD w [])) (Z.getD w []):=fun Z a=>by unfold stp wQ;exact yC fun j _=>by rw[Kl]
  rw[st,st,hV w cb,zPF cb,e];simp only[zWo,zMo,zP9 hB.1]
  generalize ht:(mkv D fun j=>(-1*at0 v j)%m.Prime)=t
  have lc:∀a b c:List Int,adv m.Prime D a (adv m.Prime D b c)=adv m.Prime D b (adv m.Prime D a c):=fun a b c=>by rw[←zD5,zTd (u:=a),zD5]
  have e1:adv m.Prime D (xW m.Prime D t (m.zG.getD w [])) (adv m.Prime D (vals.getD w []) (adv m.Prime D (xW m.Prime D v (m.zG.getD w [])) t))=adv m.Prime D (vals.getD w []) t:=by
   rw[lc,←zD5 (u:=xW m.Prime D t (m.zG.getD w [])),←zMo];have e0:adv m.Prime D t v=zeros D:=by
    rw[←ht];unfold adv zeros;rw[uW];exact yC fun j hj=>by rw[zT hj,Lq,show -1*at0 v j+at0 v j=0 by omega,Ui]
   have hr:Row m.Prime D t:=by rw[←ht];have h7:=h.ok.p.pos;refine⟨yB _ _,fun j hj=>?_⟩;rw[zT hj];have e1:=Ke (-1*at0 v j) (show m.Prime≠0 by omega);have e2:=K4 (-1*at0 v j) (show 0<m.Prime by omega);omega
   rw[e0,zC1,qF hr]
  simp only[zD5];rw[e1,lc (vals.getD w [])]
theorem zMx(h:IsM x m D){vals:Mx}{v:List Int}(hv:Row m.Prime D v){V:Mx}(hV:∀i,i<x.zA.length→V.getD i []=adv m.Prime D (vals.getD i []) ((inn m x.zA.length D v).getD i [])){ws:List Nat}(hw:∀w∈ws,w<x.zA.length):ev m D V (z0 D) ws=adv m.Prime D (ev m D vals (z0 D) ws) (wQ m.Prime D (xW m.Prime D v (wM m.Prime D m.zG ws (idM D))) (-1) v):=by
 have h7:=h.ok.p.pos;refine zZ2 h hV ws _ _ (idM D) hw (sX (by omega)) ?_;rw[zTc hv];have e:wQ m.Prime D v (-1) v=z0 D:=by rw[z0,uW];exact yC fun j hj=>by rw[show at0 v j+ -1*at0 v j=0 by omega,Ui]
 rw[e];exact(qF (kI (by omega))).symm
theorem zPG(h:IsM x m D){vals:Mx}(hR:zHR x m D vals){v:List Int}(hv:Row m.Prime D v){V:Mx}(hV:∀i,i<x.zA.length→V.getD i []=adv m.Prime D (vals.getD i []) ((inn m x.zA.length D v).getD i [])):zHR x m D V:=by intro q hq;obtain⟨⟨g1,_⟩,g2,_⟩:=zDz h.gr.1 hq;rw[zMx h hv hV g1,zMx h hv hV g2,hR q hq,(zHQ h.gr.1 h.ok).2 h.rel q hq]
theorem zOh(h:IsM x m D){v:List Int}:VOk x.zA.length m.Prime D (inn m x.zA.length D v):=
 ⟨by simp[inn],fun i hi=>by rw[zPF hi];exact qU h.ok.p⟩
theorem zWq{vals:Mx}(h:IsD x m D vals){v:List Int}(hv:Row m.Prime D v):IsD x m D (zWp m x.zA.length D vals v):=by
 have h7:=h.ok.p.pos;have hV:∀i,i<x.zA.length→(zWp m x.zA.length D vals v).getD i []=adv m.Prime D (vals.getD i []) ((inn m x.zA.length D v).getD i []):=fun i hi=>wD hi
 exact⟨h.toIsM,⟨wC,fun i hi=>by rw[hV i hi];exact zP8 (by omega)⟩,zPG h.toIsM h.rd hv hV⟩
theorem zZ3(h:IsM x m D){v:List Int}(hv:Row m.Prime D v):IsD x m D (inn m x.zA.length D v):=by
 have h7:=h.ok.p.pos;have hz:∀ws:List Nat,(∀w∈ws,w<x.zA.length)→ev m D (gl x.zA.length fun _=>z0 D) (z0 D) ws=z0 D:=by
  intro ws
  induction ws with
  |nil=>intro _;rfl
  |cons w ws ih=>
   intro hw;show ev m D _ (stp m D _ (z0 D) w) ws=_;have e:stp m D (gl x.zA.length fun _=>z0 D) (z0 D) w=z0 D:=by
    unfold stp;rw[wD (hw w (by simp)),show xW m.Prime D (z0 D) (m.zG.getD w [])=z0 D from zC1];have e1:wQ m.Prime D (z0 D) 1 (z0 D)=adv m.Prime D (z0 D) (z0 D):=yC fun j _=>by rw[Kl]
    rw[e1];exact qF (kI (by omega))
   rw[e];exact ih fun a ha=>hw a (by simp[ha])
 refine⟨h,zOh h,zPG h (vals:=gl x.zA.length fun _=>z0 D) (fun q hq=>?_) hv fun i hi=>?_⟩
 ·obtain⟨⟨g1,_⟩,g2,_⟩:=zDz h.gr.1 hq
  rw[hz _ g1,hz _ g2]
 ·rw[wD hi]
  exact(qF ((zOh h).2 i hi)).symm
theorem zPH(h:MOk x.zA.length m D){v:List Int}{i:Nat}(hi:i<x.zA.length*D):at0 (inn m x.zA.length D v).flatten i%m.Prime=(S (jR m x.zA.length D).length fun k=>at0 v k*ent (jR m x.zA.length D) k i)%m.Prime:=by
 have h7:=h.p.pos;have h1:=h.d1;have hd:D*(i/D)+i%D=i:=Nat.div_add_mod i D;have hj:i%D<D:=Nat.mod_lt _ h1;have hg:i/D<x.zA.length:=by refine Qz ?_;rw[Uw];exact hi
 have hl:∀u:List Int,(inn m x.zA.length D u).length=x.zA.length:=fun u=>by simp[inn]
 have key:∀u:List Int,at0 (inn m x.zA.length D u).flatten i=(at0 (xW m.Prime D u (m.zG.getD (i/D) [])) (i%D)+ -1*at0 u (i%D))%m.Prime:=fun u=>by have:=zFe (F:=fun i=>wQ m.Prime D (xW m.Prime D u (m.zG.getD i [])) (-1) u) hj (Jn x.zA.length) (i/D) (i/D) (fun _ _=>zBa) (List.getElem?_range hg);rw[Uw,hd]at this;rw[inn,this,wQ,zT hj]
 have hA:=h.mat _ hg;have tz:(jR m x.zA.length D).length=D:=by simp[jR]
 rw[key,Ju,tz];have e:∀k,k<D→(at0 v k*ent (jR m x.zA.length D) k i)%m.Prime=(at0 v k*ent (m.zG.getD (i/D) []) k (i%D)+ -1*(if k=i%D then at0 v k else 0))%m.Prime:=fun k hk=>by
  have e1:ent (jR m x.zA.length D) k i=at0 (inn m x.zA.length D (uJ D k)).flatten i:=by simp[ent,jR,hk]
  have e2:at0 (xW m.Prime D (uJ D k) (m.zG.getD (i/D) [])) (i%D)=ent (m.zG.getD (i/D) []) k (i%D):=by rw[xW,zT hj,zBs (k:=k) hk (fun l hl gc=>by rw[uJ,zT hl,if_neg gc,Gx]),uJ,zT hk,if_pos rfl,Kl];exact vL ((hA.2 k hk).2 _ hj)
  rw[e1,key,e2,uJ,zT hj,Jk,Ju,←Jk]
  congr 1
  by_cases g:k=i%D
  ·rw[if_pos g,if_pos g.symm];rw[Ja2,Ku];omega
  ·rw[if_neg g,if_neg (fun e=>g e.symm)];rw[Lp,Lb,Lb]
 rw[zAA e,zER,zAY,zBs (f:=fun k=>if k=i%D then at0 v k else 0) hj (fun l _ gc=>if_neg gc),if_pos rfl,K5,xW,zT hj,Ju,←K5]
theorem zTp(h:MOk x.zA.length m D){v:List Int}:Sp m.Prime (x.zA.length*D) (jR m x.zA.length D) (inn m x.zA.length D v).flatten:=
 ⟨at0 v,fun _ hj=>(zPH h hj).symm⟩
theorem zWr{p:Int}(hp:Prime p){n:Nat}(hn:n≤100000){R:Mx}{pv:Nat→Nat}(h:Red p n R pv){v w:List Int}(hv:Row p n v)(hw:Row p n w)(hs:Sp p n R (mkv n fun j=>at0 w j-at0 v j)):cl p n R pv w R.length=cl p n R pv v R.length:=by
 have h7:=hp.pos;have ha:=zBd hp hn h hw R.length;have hb:=zBd hp hn h hv R.length;have za:=zHT hp hn h hw R.length (Jd _);have zb:=zHT hp hn h hv R.length (Jd _);have da:=zOg hp hn h hw;have db:=zOg hp hn h hv
 generalize cl p n R pv w R.length=a at*
 generalize cl p n R pv v R.length=b at*
 have d1:Sp p n R (mkv n fun j=>(at0 a j-at0 w j)-(at0 b j-at0 v j)):=qE (k:=-1) da db fun j hj=>by rw[zT hj,zT hj,zT hj];congr 1;omega
 have d2:Sp p n R (mkv n fun j=>at0 a j-at0 b j):=qE (k:=1) d1 hs fun j hj=>by rw[zT hj,zT hj,zT hj];congr 1;omega
 have hx:=h.expand d2;rw[vO ha.1,vO hb.1];refine yC fun j hj=>?_
 have e:=hx j hj;rw[xP (g:=fun _=>0) (fun i hi=>by rw[zT (h.lt i hi),za i hi,zb i hi];simp),qD,zT hj,Ui]at e;have e2:=Gz.2 e;rw[vL (ha.2 j hj),vL (hb.2 j hj)]at e2;exact e2
theorem zQI{p:Int}(hp:Prime p){c N:Nat}(gB:c+N≤100000){A:Mx}(hr:∀i,i<N→Row p c (A.getD i []))(hl:A.length=N){b:List Int}(hb:Row p c b):
  (Sp p c A b∧ ∃r,Row p N r∧(∀j,j<c→(S N fun k=>at0 r k*ent A k j)%p=at0 b j%p)∧zO2 p A (c:Int) b=dS (r,dU)∧f_B (zJ.mk p (c:Int) A) b=dS (r,dU))∨
  (¬Sp p c A b∧zO2 p A (c:Int) b=dS ([],dV)∧f_B (zJ.mk p (c:Int) A) b=dS ([],dV)):=by
 have h7:=hp.pos;obtain⟨r0,ok,q1,q2,_⟩:=zNZ hp gB hr hl hb;rw[q2,←q1];simp only[and_self];obtain⟨W,pv,t,h,h2,h3⟩:=Nul.get hp gB hr hl;have eJ:=h.le;have hy:=zK6 hp gB h hb t;have hx:=zNX hp gB h (b:=b);have hK:=h.nred hp gB;have bq:=zGT hp gB h hb;obtain⟨cf,eP⟩:=zGQ hp gB h.red bq t eJ;have aR:=zHT hp gB h.red bq t eJ;have fp:∀j,j<c→at0 (b++J1 N (0:Int)) j=at0 b j:=fun j hj=>by rw[zBw,hb.1,if_pos hj]
 have hrr:∀k,at0 (b++J1 N (0:Int)) (c+k)=0:=fun k=>by rw[zBw,hb.1,if_neg (by omega),at0,J4,Jp];split<;>rfl
 have hW:∀{u:List Int},Sp p (c+N) W u↔Gr p c N A u:=fun{u}=>zVW (by omega) hr h.red h.sp h.le h.lo h.hi
 have es:=zIf hp gB h h2 hb;rw[es];have fI:sy p c N W pv b t=cl p (c+N) W pv (b++J1 N 0) t:=rfl;have fQ:((sy p c N W pv b t).take c).length=c:=by rw[L5,hy.1];omega
 have hta:∀j,j<c→at0 ((sy p c N W pv b t).take c) j=at0 (sy p c N W pv b t) j:=fun j hj=>by simp[at0,J4,hj]
 have bQ:Sp p (c+N) W (mkv (c+N) fun j=>at0 (b++J1 N (0:Int)) j-at0 (sy p c N W pv b t) j):=⟨fun k=> -cf k,fun j hj=>by
  have e:(S W.length fun k=> -cf k*ent W k j)= -1*(S W.length fun k=>cf k*ent W k j):=by rw[←zAY];exact xP fun k _=>by rw[Int.neg_mul,Int.neg_mul,Kl]
  have e2:=eP j hj;rw[←fI]at e2;rw[e,zT hj,Gy,e2,←Gy]
  congr 1;omega⟩
 have cD:(∀i,i<((sy p c N W pv b t).take c).length→at0 ((sy p c N W pv b t).take c) i=0)↔ ∀j,j<c→at0 (sy p c N W pv b t) j=0:=by rw[fQ];exact⟨fun g j hj=>by rw[←hta j hj];exact g j hj,fun g j hj=>by rw[hta j hj];exact g j hj⟩
 have dq:(∀j,j<c→at0 (sy p c N W pv b t) j=0)→ ∀j,j<c→(S N fun k=>at0 (sx p c N W pv b t) k*ent A k j)%p=at0 b j%p:=fun g j hj=>by
  have e:=hW.1 bQ j hj;rw[zT (by omega),fp j hj,g j hj,Int.sub_zero]at e;rw[e];exact zAA fun k hk=>by rw[zT (by omega),hrr,sx,zT hk,Jk,Ju,←Jk]
 have dH:Sp p c A b→ ∀j,j<c→at0 (sy p c N W pv b t) j=0:=fun⟨s,hs⟩=>by
  rw[hl]at hs;have cj:Sp p (c+N) W (mkv (c+N) fun j=>if j<c then at0 b j else s (j-c)):=hW.2 fun j hj=>by
   rw[zT (by omega),if_pos hj,←hs j hj]
   congr 1
   exact xP fun k hk=>by rw[zT (by omega),if_neg (by omega),Kw]
  have hw:Sp p (c+N) W (mkv (c+N) fun j=>if j<c then at0 (sy p c N W pv b t) j else at0 (sy p c N W pv b t) j+s (j-c)):=qE (k:=-1) cj bQ fun j hj=>by
   rw[zT hj,zT hj,zT hj]
   congr 1
   by_cases g:j<c
   ·rw[if_pos g,if_pos g,fp j g];omega
   ·obtain⟨k,rfl⟩:∃k,j=c+k:=⟨j-c,by omega⟩
    rw[if_neg g,if_neg g,hrr];omega
  refine Classical.byContradiction fun hn=>?_
  obtain⟨j,hj,tx⟩:∃j,j<c∧at0 (sy p c N W pv b t) j≠0:=by refine Classical.byContradiction fun g=>hn fun j hj=>Classical.byContradiction fun e=>g ⟨j,hj,e⟩
  have hj3:=hy.2 j (by omega);obtain⟨i,hi,i1,i2⟩:=h.red.lead hw ⟨j,by omega,by rw[zT (by omega),if_pos hj,vL hj3];exact tx⟩;rcases Js i t with g|g
  ·have:=h.lo i g
   rw[zT (by omega),if_pos this,fI,aR i g]at i2;exact i2 (Ui _)
  ·have:=h.hi i g hi
   have e:=i1 j (by omega);rw[zT (by omega),if_pos hj,vL hj3]at e;exact tx e
 rcases kJ (v:=(sy p c N W pv b t).take c) (by omega)with⟨z1,z2⟩|⟨z1,z2⟩
 ·have hz:=cD.1 z2
  rw[z1,bs,J3,zH];have hs:=dq hz;refine .inl ⟨⟨at0 (sx p c N W pv b t),fun j hj=>by rw[hl];exact hs j hj⟩,_,zBd hp (by omega) hK hx _,fun j hj=>?_,rfl⟩;have hd:=(h.nsp hp gB).1 (zOg hp (by omega) hK hx) j hj;have e:(S N fun k=>at0 (mkv N fun j=>at0 (cl p N (nul c t W) (fun i=>pv (t+i)-c) (sx p c N W pv b t) (nul c t W).length) j-at0 (sx p c N W pv b t) j) k*ent A k j)=(S N fun k=>at0 (cl p N (nul c t W) (fun i=>pv (t+i)-c) (sx p c N W pv b t) (nul c t W).length) k*ent A k j)+ -1*(S N fun k=>at0 (sx p c N W pv b t) k*ent A k j):=by rw[←zAY,←zER];exact xP fun k hk=>by rw[zT hk,Int.sub_mul];omega
  rw[e]at hd;rw[←hs j hj];refine Gz.2 ?_;rw[←hd]
  congr 1
  omega
 ·rw[z1,bs,Jo,zI]
  exact .inr ⟨fun g=>z2 (cD.2 (dH g)),rfl⟩
end
end Go.Pl

namespace Go.Pl
open Go Go.Ab Go.Wk Go.Pc
theorem zOi{p:Int}(hp:Prime p){n D:Nat}(hn:n≤100)(hD:D≤100){U W:Mx}(hU:VOk n p D U)(hW:VOk n p D W):zXp p U 1 W=dS (gl n fun i=>adv p D (U.getD i []) (W.getD i [])):=by
 unfold zXp;have:=hU.1;have:=hW.1;rw[vV (body:=zNk p U 1 W) n (fun i=>adv p D (U.getD i []) (W.getD i [])) (fun i acc hi ha=>by
  unfold zNk;simp only
  rw[hU.1,yJ hi,zI,zR [] (by omega),bs,zR [] (by omega),bs,zJB hp (show D≤1000 by omega) (hU.2 i hi) (hW.2 i hi),bs,zS (by simp;omega),bs,zF (by omega) (by omega),bs,cs]) (fun acc=>by
  unfold zNk;simp only
  rw[hU.1,tH,zH])]
 rfl
theorem zYe{v:List Int}(hl:v.length≤1000000):IsB (zVd v) (∀i,i<v.length→at0 v i=0):=zDc hl
theorem zZ4{A:Mx}(hA:A.length≤1000000)(h:∀i,i<A.length→(A.getD i []).length≤1000000):IsB (yAc A) (∀i,i<A.length→ ∀j,j<(A.getD i []).length→at0 (A.getD i []) j=0):=by
 refine tW A.length _ rfl (fun i hi _=>?_) ?_
 ·unfold zPX
  rw[yJ hi,zI,zR [] hi,bs];exact uA (zYe (h i hi)) (by omega) rfl
 ·unfold zPX
  rw[tH,zH]
theorem VOk.like{n D:Nat}{p:Int}{U:Mx}(h:VOk n p D U)(hn:n≤100)(hD:D≤100){W:Mx}:zG8 U W=dS (U==W):=by
 refine zAx (by have:=h.1;omega) fun r hr=>?_
 obtain⟨i,hi,rfl⟩:=K8.1 hr;have:=(h.2 i (by have:=h.1;omega)).1;rw[J4,J6 hi,H7]at this;omega
theorem VOk.at_flat{n D:Nat}{p:Int}{U:Mx}(h:VOk n p D U){g j:Nat}(hg:g<n)(hj:j<D):at0 U.flatten (g*D+j)=at0 (U.getD g []) j:=by
 have hl:=h.1;have:=zFe (F:=fun v:List Int=>v) hj U g (U.getD g []) (fun v hv=>by
  obtain⟨i,hi,rfl⟩:=K8.1 hv;have:=(h.2 i (by omega)).1;rw[J4,J6 hi,H7]at this;exact this) (by
  rw[J4,J6 (by omega),H7])
 simpa using this
theorem VOk.ext{n D:Nat}{p:Int}{U W:Mx}(h:VOk n p D U)(h':VOk n p D W)(e:∀i,i<n*D→at0 U.flatten i%p=at0 W.flatten i%p):U=W:=by
 refine zCq h.1 h'.1 fun g hg=>?_
 have a:=h.2 g hg;have b:=h'.2 g hg;rw[vO a.1,vO b.1];refine yC fun j hj=>?_
 have:=e (g*D+j) (by have:=zFf (D:=D) hg;omega)
 rw[h.at_flat hg hj,h'.at_flat hg hj,vL (a.2 j hj),vL (b.2 j hj)]at this;exact this
theorem zJC{n D i:Nat}(h1:1≤D)(hi:i<n*D):∃g j,g<n∧j<D∧i=g*D+j:=by refine⟨i/D,i%D,Qz (by rw[Uw];exact hi),Nat.mod_lt _ h1,?_⟩;rw[Uw];exact(Nat.div_add_mod i D).symm
section
variable {x:SPr}{m:zB}{D:Nat}{vals:Mx}
theorem IsM.inn_i(h:IsM x m D){v:List Int}(hv:Row m.Prime D v):zVc x m v=dS (inn m x.zA.length D v,0):=by
 have h3:=h.ok.d3;unfold zVc;rw[h.im,bs,J3,zH,h.ok.d];rcases zAs (r:=v) h.ok.p (show D≤8 by omega)with⟨e,_⟩|⟨_,k⟩
 ·rw[e,bs,J3,zH,zHX h.ok h.gr.1.os.1 rfl hv,bs]
 ·exact absurd hv k
theorem IsM.inn_s(h:IsM x m D){v:List Int}(hv:Row m.Prime D v):zXo x m v=dS (inn m x.zA.length D v,0):=by
 have h3:=h.ok.d3;unfold zXo;rw[h.sp,bs,J3,zH,h.ok.d];rcases tY (r:=v) h.ok.p (show D≤8 by omega)with⟨e,_⟩|⟨_,k⟩
 ·rw[e,bs,J3,zH,zEt h.ok h.gr.1.os.1 hv,bs]
 ·exact absurd hv k
theorem IsM.red_der(h:IsM x m D):∃R pv,Red m.Prime (x.zA.length*D) R pv∧sN m.Prime (x.zA.length*D) R (jR m x.zA.length D)∧ ∀vals,IsD x m D vals→
  zRc x m vals=dS (zBA x.zA.length D (cl m.Prime (x.zA.length*D) R pv vals.flatten R.length),0)∧zO3 x m vals=dS (zBA x.zA.length D (cl m.Prime (x.zA.length*D) R pv vals.flatten R.length),0):=by
 have h6:=h.gr.1.os.1;have h3:=h.ok.d3;have eO:x.zA.length*D≤14*3:=Jy h6 h3;obtain⟨R,pv,r1,r2,r3,r4⟩:=zJ1 h.ok h6;refine⟨R,pv,r3,r4,fun vals hd=>?_⟩;have hV:=hd.vo;have hR:R.length≤x.zA.length*D:=r3.len_le;have hv:=zD4 hV;have gI:=zBd h.ok.p (by omega) r3 hv R.length;have e0:((0:Int) != 0)=dV:=rfl;unfold zRc zO3 zZH;simp only[(zDD h hV).1 hd.rd,(zDC h hV).2.1 hd.rd,bs,e0,zH,zEu h.ok h6,zBe h.ok h6 rfl,r1,r2];rw[zFK (by rw[hV.1];omega) (by rw[hv.1];omega),bs,zAt (by rw[hV.1];omega) (by rw[hv.1];omega),bs,zCy h.ok.p (by omega) r3 hv (by omega),bs,zDe h.ok.p (by omega) r3 hv (by omega),bs,h.ok.d,zIb h.ok.d1 (by omega) gI.1 (by omega),bs,zIa h.ok.d1 gI.1 (by omega),bs];exact⟨rfl,rfl⟩
theorem IsD.innvec(h:IsD x m D vals):(Sp m.Prime (x.zA.length*D) (jR m x.zA.length D) vals.flatten∧ ∃r,Row m.Prime D r∧inn m x.zA.length D r=vals∧zUp x m vals=dS (r,0)∧zRf x m vals=dS (r,0))∨
  (¬Sp m.Prime (x.zA.length*D) (jR m x.zA.length D) vals.flatten∧zUp x m vals=dS ([],4)∧zRf x m vals=dS ([],4)):=by
 have h6:=h.gr.1.os.1;have h3:=h.ok.d3;have h1:=h.ok.d1;have hV:=h.vo;have eO:x.zA.length*D≤14*3:=Jy h6 h3;have hv:=zD4 hV;have e0:((0:Int) != 0)=dV:=rfl;have tz:(jR m x.zA.length D).length=D:=by simp[jR]
 have aO:=zHY h.ok h6 (i:=0) (by omega);have hs:=zQI h.ok.p (c:=x.zA.length*D) (N:=D) (by omega) (A:=jR m x.zA.length D) (fun i hi=>zHY h.ok h6 (by omega)) tz hv;unfold zUp zRf zZP;simp only[(zDD h.toIsM hV).1 h.rd,(zDC h.toIsM hV).2.1 h.rd,bs,e0,zH,zEu h.ok h6,zBe h.ok h6 rfl];rw[h.ok.d,←Ls,zF (by omega) (by omega),bs,zFK (by rw[hV.1];omega) (by rw[hv.1];omega),bs,show ixO (jR m x.zA.length D) 0=dS ((jR m x.zA.length D).getD 0 [])from zR (i:=0) [] (by omega),bs,bs,zAt (by rw[hV.1];omega) (by rw[hv.1];omega),bs,aO.1];rcases hs with⟨s1,r,s2,s3,s4,s5⟩|⟨s1,s4,s5⟩
 ·rw[s4,bs,s5,bs,J3,zH]
  refine .inl ⟨s1,r,s2,(zOh h.toIsM).ext hV fun i hi=>?_,rfl,rfl⟩;rw[zPH h.ok hi,tz,s3 i hi]
 ·rw[s4,bs,s5,bs,Jo,zI]
  exact .inr ⟨s1,rfl,rfl⟩
theorem zGr(hx:DrP x)(hm:DrM m)(eM:vals.length≤1048576):(∃D,IsD x m D vals)∨ ∃k,k≠0∧zG4 x m vals=dS k∧zG6 x m vals=dS k:=by
 rcases zDA hx hm with⟨D,h⟩|⟨s1,i1⟩
 ·have d3:=h.ok.d3
  rcases(zDd (x:=x) h.ok.p h.ok.d (by omega) eM).both (zBu (x:=x) h.ok.p h.ok.d (by omega) eM)with⟨v1,w1,hV⟩|⟨v1,w1,hV⟩
  ·by_cases hR:zHR x m D vals
   ·exact .inl ⟨D,h,hV,hR⟩
   ·exact .inr ⟨5,by omega,(zDD h hV).2 hR,(zDC h hV).2.2 hR⟩
  ·refine .inr ⟨1,by omega,?_,?_⟩
   ·unfold zG4
    rw[h.sp];simp only[J3,zH,bs,v1,Jo,zI]
   ·unfold zG6
    rw[h.im];simp only[J3,zH,bs,w1,Jo,zI]
 ·refine .inr ⟨1,by omega,?_,?_⟩
  ·unfold zG4;rw[s1];rfl
  ·unfold zG6;rw[i1];rfl
theorem zQJ(hx:DrP x)(hm:DrM m)(eM:vals.length≤1048576):(∃D,IsD x m D vals)∨ ∃k,k≠0∧zRc x m vals=dS ([],k)∧zO3 x m vals=dS ([],k):=by
 rcases zGr hx hm eM with h|⟨k,hk,s1,i1⟩
 ·exact .inl h
 ·refine .inr ⟨k,hk,?_,?_⟩
  ·unfold zRc;rw[s1,bs,tI hk,zI]
  ·unfold zO3;rw[i1,bs,tI hk,zI]
theorem zWs(h:MOk x.zA.length m D){d:jV}(hd:Die d):Ans (zE (zPY (x,m,vals)) (d.b,d.i,d.h,[],0)) fun v=>Row m.Prime D v:=by
 have h7:=h.p.pos;have h3:=h.d3;refine .lp (fun i t=>t.2.2.2.2=i∧Die ⟨t.1,t.2.1,t.2.2.1⟩∧Row m.Prime i t.2.2.2.1) D ⟨rfl,hd,rfl,fun i hi=>by omega⟩ fun i t hi ht=>?_
 unfold zPY;rw[ht.1];simp only[h.d];refine .cd (fun hl=>.bd (zIq ht.2.1 (by omega)) fun r hr=>?_) fun hl=>.rt ?_
 ·simp only[decide_eq_true_eq]at hl
  have gk:=ht.2.2.1;rw[zS (by simp;omega),bs];refine .rg (by omega) (.rt ⟨by omega,by simp only;omega,hr.2.2,by simp[gk],fun j hj=>?_⟩);rw[zBw,gk]
  by_cases e:j<i
  ·rw[if_pos e];exact ht.2.2.2 j e
  ·rw[if_neg e,show j-i=0 by omega]
   have:=hr.1;have:=hr.2.1;exact⟨hr.1,by show r.1≤_;omega⟩
 ·simp only[decide_eq_false_iff_not]at hl
  have e:i=D:=by omega
  rw[←e];exact ht.2.2
end
theorem zQK(c:List Int)(hb:∀i(h:i<c.length),0≤c[i]∧c[i]≤255):zXq c=dS dU:=by
 unfold zXq yAb
 by_cases hl:(c.length:Int)> 4096
 ·rw[zIp,bs,dX hl,zI]
 refine zDi hb (P:=fun r=>DrP r.1∧DrM r.2.1∧r.2.2.length≤100) (fun s hs e=>by rw[e,bs];exact .bd (zIs hs) fun r hr=>.rt ⟨hr.1,hr.2.1,hr.2.2.1⟩) fun r hr=>?_
 obtain⟨x,m,vals⟩:=r;obtain⟨hx,hm,hv⟩:=hr;simp only at hx hm hv ⊢
 rcases zQJ hx hm (show vals.length≤1048576 by omega)with⟨D,h⟩|⟨k,hk,s1,i1⟩
 ·have h3:=h.ok.d3
  have h1:=h.ok.d1;have h7:=h.ok.p.pos;have h6:=h.gr.1.os.1;have eO:x.zA.length*D≤14*3:=Jy h6 h3;obtain⟨R,pv,r1,r2,r3⟩:=h.red_der;have al:=zD4 h.vo;have gI:=zBd h.ok.p (by omega) r1 al R.length;have ez:=zSW gI;obtain⟨s1,i1⟩:=r3 vals h;rw[i1,bs,s1,bs];simp only[bne_self_eq_false,zH];rw[ez.like (by omega) (by omega),bs];simp only[beq_self_eq_true,J3,zH];refine(fun⟨r,h1,h2⟩=>h2▸h1:Ans _ (fun r=>r=dU)→_) (.bd (zK8 hb (by omega)) fun d hd=>.bd (zWs h.ok hd) fun v hv=>?_);have gN:=zZ3 h.toIsM hv;have c7:=zWq h hv;obtain⟨s2,i2⟩:=r3 _ c7;have pV:cl m.Prime (x.zA.length*D) R pv (zWp m x.zA.length D vals v).flatten R.length=cl m.Prime (x.zA.length*D) R pv vals.flatten R.length:=by
   refine zWr h.ok.p (by omega) r1 al (zD4 c7.vo) (zSJ (r2.iff.2 (zTp h.ok (v:=v))) fun i hi=>?_);obtain⟨g,j,hg,hj,rfl⟩:=zJC h1 hi;rw[zT hi,c7.vo.at_flat hg hj,h.vo.at_flat hg hj,gN.vo.at_flat hg hj];show(at0 ((gl x.zA.length fun i=>adv m.Prime D (vals.getD i []) ((inn m x.zA.length D v).getD i [])).getD g []) j-_)%_=_;rw[wD hg,adv,zT hj,Int.emod_sub_emod]
   congr 1
   omega
  rcases gN.innvec with⟨_,r,q1,q2,q3,q4⟩|⟨q1,_⟩
  ·simp only[h.inn_i hv,h.inn_s hv,bs,bne_self_eq_false,zH,gN.vo.like (show x.zA.length≤100 by omega) (show D≤100 by omega),beq_self_eq_true,J3]
   rw[zOi h.ok.p (by omega) (by omega) h.vo gN.vo,bs,show(gl x.zA.length fun i=>adv m.Prime D (vals.getD i []) ((inn m x.zA.length D v).getD i []))=zWp m x.zA.length D vals v from rfl,i2,bs,q4,bs,q3,bs,pV];simp only[bne_self_eq_false,zH,ez.like (show x.zA.length≤100 by omega) (show D≤100 by omega),bs,beq_self_eq_true,J3,wG (show r.length≤1000000 by have:=q1.1;omega),h.inn_i q1,q2,zI,gN.vo.like (show x.zA.length≤100 by omega) (show D≤100 by omega)];have hz:(∀i,i<(zBA x.zA.length D (cl m.Prime (x.zA.length*D) R pv vals.flatten R.length)).length→ ∀j,j<((zBA x.zA.length D (cl m.Prime (x.zA.length*D) R pv vals.flatten R.length)).getD i []).length→at0 ((zBA x.zA.length D (cl m.Prime (x.zA.length*D) R pv vals.flatten R.length)).getD i []) j=0)↔Sp m.Prime (x.zA.length*D) (jR m x.zA.length D) vals.flatten:=by
    rw[←r2.iff,←zVT h.ok.p (by omega) r1 al,ez.1];constructor
    ·intro g i hi
     obtain⟨a,j,ha,hj,rfl⟩:=zJC h1 hi;have:=g a ha j (by rw[(ez.2 a ha).1];exact hj)
     rwa [zBA,wD ha,zT hj]at this
    ·intro g a ha j hj
     rw[(ez.2 a ha).1]at hj;rw[zBA,wD ha,zT hj];exact g _ (by have:=zFf (D:=D) ha;omega)
   have hzz:=zZ4 (A:=zBA x.zA.length D (cl m.Prime (x.zA.length*D) R pv vals.flatten R.length)) (by rw[ez.1];omega) (fun i hi=>by rw[ez.1]at hi;rw[(ez.2 i hi).1];omega)
   rcases h.innvec with⟨g1,r',_,_,_,g5⟩|⟨g1,_,g5⟩
   ·rw[g5,bs]
    rcases hzz with⟨e,_⟩|⟨_,e⟩
    ·rw[e,bs];exact .rt rfl
    ·exact absurd (hz.2 g1) e
   ·rw[g5,bs]
    rcases hzz with⟨_,e⟩|⟨e,_⟩
    ·exact absurd (hz.1 e) g1
    ·rw[e,bs];exact .rt rfl
  ·exact absurd (zTp h.ok) q1
 ·have nl:zG8 [] []=dS dU:=zAx (A:=[]) (by simp) (by simp)
  rw[i1,bs,s1,bs];simp only[bne_self_eq_false,zH,nl,bs,J3,tI hk,zI]
theorem zI7(c:List Int)(h:VL VU c):zXq c=dS dU:=zQK c (vu h)
end Go.Pl

namespace Go.Pl
open Go Go.Ab Go.Wk Go.Pc
section
variable {x:SPr}{m:zB}{D:Nat}{vals:Mx} (h:IsM x m D) (hV:VOk x.zA.length m.Prime D vals)
 include h hV
end
end Go.Pl

namespace Go.Pl
open Go Go.Ab Go.Wk Go.Pc
section
variable {x:SPr}{m:zB}{D:Nat} (h:IsM x m D)
 include h
end
end Go.Pl

namespace Go.Pl
open Go Go.Ab Go.Wk Go.Pc
end Go.Pl

namespace Go.Pl
open Go Go.Ab Go.Wk Go.Pc
section
variable {x:SPr}{m:zB}{D:Nat} (h:IsM x m D) {v:List Int}
 include h
end
end Go.Pl

namespace Go.Pl
open Go Go.Ab Go.Wk Go.Pc
section
variable {x:SPr} (h:Pres x)
 include h
def zCe(x:SPr)(y:Vec):Nat→Nat
 |0=>0
 |i+1=>zCe x y i*(at0 x.zA i).toNat+(at0 y i).toNat
 omit h in
 theorem zKA{y:Vec}(hy:∀i,i<x.zA.length→0≤at0 y i∧at0 y i<at0 x.zA i):∀i,i≤x.zA.length→(zCe x y i:Int)<pr x.zA i
  |0,_=>by show(0:Int)<1;decide
  |i+1,hi=>by have ih:=zKA hy i (by omega);have h1:=hy i (by omega);have e:pr x.zA (i+1)=pr x.zA i*at0 x.zA i:=rfl;have h2:((zCe x y i:Int)+1)*at0 x.zA i≤pr x.zA i*at0 x.zA i:=Int.mul_le_mul_of_nonneg_right (by omega) (by omega);rw[Int.add_mul,Kl]at h2;simp only[zCe,Lm,Ls,e];rw[Hc (by omega),Hc (by omega)];omega
theorem zZ5{y:Vec}(hy:V (suf x 0) y){N:Nat}(hN:pr x.zA x.zA.length=(N:Int))(hN2:N≤1000000):∃k,k<N∧elv x k=y:=by
  have h9:=h.os.1;obtain⟨q1,q2⟩:=zBm h.os x.zA.length 0 y (by omega) hy;have hd:∀i,i<x.zA.length→0≤at0 y i∧at0 y i<at0 x.zA i:=fun i hi=>by have:=q2 i hi;rw[Ja]at this;omega
  have gE:=zKA hd x.zA.length (Jd _);have hk:zCe x y x.zA.length<N:=by omega
  refine⟨_,hk,?_⟩;have key:∀i,i≤x.zA.length→zE (zFn x) ((zCe x y i:Int),J1 i 0++y.drop i,(i:Int)-1)=dS y:=by
    intro i
    induction i with
    |zero=>
      intro _;rw[yG];unfold zFn;simp only
      rw[show decide (((0:Nat):Int)-1≥0)=dV from rfl,zH];rfl
    |succ i ih=>
      intro hi;have ih:=ih (by omega);have h1:=hd i (by omega);have eI:=(h.os.2 i (by omega)).pos;have fN:=zKA hd (i+1) hi;have tq:∀j,j≤x.zA.length→pr x.zA j≤pr x.zA x.zA.length:=fun j hj=>by
        have key:∀d j,j+d=x.zA.length→pr x.zA j≤pr x.zA x.zA.length:=by
          intro d
          induction d with
          |zero=>intro j hj;rw[show j=x.zA.length by omega];exact Jaz _
          |succ d ih2=>
            intro j hj;have a:=ih2 (j+1) (by omega);have b:=zB3 (os:=x.zA) (i:=j) (fun k hk=>h.os.2 k (by omega));have c:=(h.os.2 j (by omega)).pos;have e:pr x.zA (j+1)=pr x.zA j*at0 x.zA j:=rfl;have d:pr x.zA j*1≤pr x.zA j*at0 x.zA j:=Li (by omega) (by omega);omega
        exact key (x.zA.length-j) j (by omega)
      have hm:=tq (i+1) hi;have eq:((zCe x y (i+1):Nat):Int)=(zCe x y i:Int)*at0 x.zA i+at0 y i:=by simp only[zCe,Lm,Ls];rw[Hc (by omega),Hc (by omega)]
      have t1:((zCe x y (i+1):Nat):Int).tmod (at0 x.zA i)=at0 y i:=by rw[Kb (by omega),eq,Hd,Int.mul_add_emod_self_left];exact Jr h1.1 h1.2
      have t2:((zCe x y (i+1):Nat):Int).tdiv (at0 x.zA i)=(zCe x y i:Int):=by rw[Kq (by omega),eq,Int.add_comm,Int.add_mul_ediv_right _ _ (by omega),Int.ediv_eq_zero_of_lt h1.1 h1.2,Lo]
      have hni:(zCe x y i:Int)≤(zCe x y (i+1):Nat):=by have:(zCe x y i:Int)*1≤(zCe x y i:Int)*at0 x.zA i:=Li (by omega) (by omega);omega
      have a8:y.drop i=at0 y i::y.drop (i+1):=by
        rw[Ga (by omega)]
        congr 1
        rw[at0,J4,J6 (by omega)];rfl
      have gJ:zFn x (((zCe x y (i+1):Nat):Int),J1 (i+1) 0++y.drop (i+1),((i+1:Nat):Int)-1)=dS (.inl ((zCe x y i:Int),J1 i 0++y.drop i,(i:Int)-1)):=by
        unfold zFn;simp only
        rw[show(((i+1:Nat):Int)-1)=(i:Int)from by omega,show decide ((i:Int)≥0)=dU from dX (by omega),zI,zZ (by omega),bs,yL,if_neg (by omega),t1,bs,zR 0 (by simp;omega),bs,bs,xC,if_neg (by omega),t2,zF (by omega) (by omega),bs,zF (by omega) (by omega),bs,show((i:Nat):Int).toNat=i from rfl]
        congr 4
        rw[a8,Qw,Ji,Ja6 _ _ (by simp)];simp
      rw[yG,gJ];exact ih
  have he:=zBh h (k:=zCe x y x.zA.length) (by omega);have hi:zO6 x ((zCe x y x.zA.length:Nat):Int)=dS y:=by unfold zO6;have k1:=key x.zA.length (Jd _);rw[show y.drop x.zA.length=[]from by rw[←q1];exact List.drop_length,Jh]at k1;rw[yF (by omega),bs,Kk,zF (by omega) (by omega),bs,k1,bs]
  rw[he.1]at hi;exact Lh.inj hi
variable (hc:vM (suf x 0))
 include hc
theorem zKB{C:Nat→Option Vec}(hC:∀{j t},C j=dS t→j<x.zA.length∧V (suf x 0) t∧(∀i,i<j→at0 t i=0)∧at0 t j=1){L:Vec→Prop}(hL:∀{j t},C j=dS t→zCc x L t){u:Mx}{P:List Int}:∀(l k i:Nat)(y:Vec),k+l=x.zA.length→u.drop i=wU C k l→P.drop i=zDg C k l→i≤P.length→i+l≤1000→V (suf x 0) y→(∀j,j<k→(C j).isSome=dU→at0 y j=0)→
  ∃z,V (suf x 0) z∧zCc x L z∧zE (zI0 x u P) (y,(i:Int))=dS (mul (suf x 0) y z)∧ ∀j,j<x.zA.length→(C j).isSome=dU→at0 (mul (suf x 0) y z) j=0
 |0,k,i,y,hk,hu,hP,hi,eS,hy,hz=>by
  have G:=g0 h hc;have:i=P.length:=by have:=congrArg Uz hP;rw[Kv]at this;simp[zDg]at this;omega
  subst this;refine⟨zeros (suf x 0).length,G.ein,.one,?_,?_⟩
  ·rw[G.oner hy,yG]
   unfold zI0;simp only
   rw[tH,zH]
  ·rw[G.oner hy]
   exact fun j hj=>hz j (by omega)
 |l+1,k,i,y,hk,hu,hP,hi,eS,hy,hz=>by
  have F:=zFg h hc;have G:=g0 h hc;cases ht:C k with
  |none=>
   rw[zD7 ht]at hu;rw[zFR ht]at hP;refine zKB hC hL l (k+1) i y (by omega) hu hP hi (by omega) hy fun j hj hs=>?_
   by_cases e:j=k
   ·subst e;rw[ht]at hs;cases hs
   ·exact hz j (by omega) hs
  |some t=>
   rw[zD8 ht]at hu;rw[zFS ht]at hP;obtain⟨a1,a2,a3⟩:=zFh hu;obtain⟨p1,p2,p3⟩:=zFh hP;obtain⟨z,z1,z2,z3,z4,z5⟩:=zJ7 h hc hC (u:=u) (s:=(y,(i:Int))) ht a2 hy;have bS:=(F.ad hy z2 (show k<x.zA.length by omega) z3).1;obtain⟨w,w1,w2,w3,w4⟩:=zKB hC hL l (k+1) (i+1) (mul (suf x 0) y z) (by omega) a3 p3 (by omega) (by omega) (G.cl hy z2) fun j hj hs=>by
    by_cases e:j=k
    ·subst e;exact z4
    ·rw[bS j (by omega)];exact hz j (by omega) hs
   have eA:zI0 x u P (y,(i:Int))=dS (.inl (mul (suf x 0) y z,((i+1:Nat):Int))):=by
    unfold zI0;simp only
    rw[yJ p1,zI,p2,bs,z5,bs,zF (by omega) (by omega),bs,cs]
   rw[G.assoc hy z2 w1]at w3 w4;exact⟨mul (suf x 0) z w,G.cl z2 w1,.m (z1 (hL ht)) w2,by rw[yG,eA];exact w3,w4⟩
theorem zMy{C:Nat→Option Vec}{L:Vec→Prop}(dP:∀a,L a→V (suf x 0) a)(hC:zFT x L C){y:Vec}(hy:V (suf x 0) y):IsB (zXs x (wU C 0 x.zA.length) y) (zCc x L y):=by
 have h9:=h.os.1;have F:=zFg h hc;have G:=g0 h hc;have ae:∀{j t},C j=dS t→j<x.zA.length∧V (suf x 0) t∧(∀i,i<j→at0 t i=0)∧at0 t j=1:=fun hj=>by obtain⟨a1,_,a3,a4,a5,_⟩:=hC.i hj;exact⟨a1,a3,a4,a5⟩
 obtain⟨q1,_⟩:=zBm h.os x.zA.length 0 y (by omega) hy;obtain⟨z,z1,z2,z3,z4⟩:=zKB h hc ae (L:=L) (u:=wU C 0 x.zA.length) (P:=zDg C 0 x.zA.length) (fun hj=>(hC.i hj).2.1) x.zA.length 0 0 y (by omega) rfl rfl (by omega) (by omega) hy (fun j hj=>by omega);rw[show((0:Nat):Int)=0 from rfl]at z3;have hr:=G.cl hy z1;obtain⟨r1,_⟩:=zBm h.os x.zA.length 0 _ (by omega) hr;unfold zXs f_x;rw[zBc (by omega),bs,zMq h hc ae 0 x.zA.length (by omega),bs,z3,bs,bs];refine(IsB.b (zDc (v:=mul (suf x 0) y z) (by omega))).iff ⟨fun g=>?_,fun g i hi=>?_⟩
 ·have e:mul (suf x 0) y z=zeros (suf x 0).length:=F.ex hr G.ein fun d hd=>by
   rw[g d (by omega),F.e0 hd]
  exact Gen.left G dP hy z2 (by rw[e];exact .one)
 ·refine Classical.byContradiction fun gc=>?_
  have hg:zCc x L (mul (suf x 0) y z):=.m g z2;obtain⟨j,j1,j2,j3,j4⟩:=hC.d hg fun e=>gc (by rw[e];exact F.e0 (by omega))
  exact j4 (z4 j j1 j2)
theorem zI8(gT:jU x){C:Nat→Option Vec}{L:Vec→Prop}(dP:∀a,L a→V (suf x 0) a)(hC:zFT x L C):f_Z x [wU C 0 x.zA.length]=dS dU:=by
 have h9:=h.os.1;have hl:=zIk C 0 x.zA.length;have gu:∀a∈wU C 0 x.zA.length,V (suf x 0) a:=fun a ha=>by obtain⟨k,_,hk⟩:=U1.1 ha;exact(hC.i hk).2.2.1
 obtain⟨E,e1,e2⟩:=zIn h hc gu (by omega);have same:=zMr h hc hC e2 (zWe h hc dP hC);have pE:zE (zRu x (wU C 0 x.zA.length)) 0=dS (.inl ()):=by
  have:=zP (body:=zRu x (wU C 0 x.zA.length)) (r:=.inl ()) (fun i=>(i:Int)) (wU C 0 x.zA.length).length (fun i hi=>by
   unfold zRu;rw[yJ hi,zI,zR [] hi,bs];have hv:=zMt h (gu _ (zC3 (d:=[]) hi));rcases uV (v:=(wU C 0 x.zA.length).getD i []) h.os with⟨e,_⟩|⟨_,k⟩
   ·rw[e,bs,J3,zH,zF (by omega) (by omega),bs,cs]
   ·exact absurd hv k) (by
   unfold zRu;rw[tH,zH])
  exact this
 have dz:zM5 x=dS dU:=by
  rcases qS (x:=x) (by omega)with⟨e,_⟩|⟨_,k⟩
  ·exact e
  ·exact absurd ⟨h,hc,gT⟩ k
 have eA:zVe x [wU C 0 x.zA.length] 0=dS (.inl 1):=by
  unfold zVe;rw[show decide ((0:Int)<(([wU C 0 x.zA.length]:List Mx).length:Int))=dU from rfl,zI,show ixO [wU C 0 x.zA.length] 0=dS (wU C 0 x.zA.length)from rfl,bs,dW (by omega),zH,pE,bs];simp only
  rw[e1,bs,←same,zDW (by omega) (fun r hr=>by have:=(zBm h.os x.zA.length 0 r (by omega) (gu r hr)).1;omega),bs,beq_self_eq_true,J3,zH]
  rfl
 have dw:zVe x [wU C 0 x.zA.length] 1=dS (.inr (.inl ())):=rfl;unfold f_Z;rw[dz,bs,J3,zH,yG,eA];simp only
 rw[yG,dw];rfl
end
end Go.Pl

namespace Go.Pl
open Go Go.Ab Go.Wk Go.Pc
theorem yBR{o:Option Bool}(h:Ans o fun r=>r=dU):o=dS dU:=by obtain⟨r,h1,rfl⟩:=h;exact h1
section
variable {x:SPr}{m:zB}{D:Nat} (h:IsM x m D)
 include h
theorem IsM.order:∃N:Nat,pr x.zA x.zA.length=(N:Int)∧1≤N∧N≤729∧zIG x=dS ((N:Int),0):=by
 have h6:=h.gr.1.os.1;obtain⟨N,N1,N2,_,_,_⟩:=sF h.gr.2.2;have hp:=zB3 (os:=x.zA) (i:=x.zA.length) (fun j hj=>h.gr.1.os.2 j hj);refine⟨N,N1,by omega,N2,?_⟩;unfold zIG;rcases wP (x:=x) (by omega)with⟨e,_⟩|⟨_,k⟩
 ·rw[e,bs,J3,zH,zAG h.gr.1.os,bs]
  rcases zLK (os:=x.zA) (i:=x.zA.length) (fun j hj=>h.gr.1.os.2 j hj)with g|g
  ·rw[g.1,N1]
  ·omega
 ·exact absurd h.gr.2.2 k
theorem IsM.elem{N:Nat}(hN:pr x.zA x.zA.length=(N:Int))(hN2:N≤729){k:Int}(k0:0≤k)(k1:k<N):∃e,zKS x k=dS (e,0)∧V (suf x 0) e:=by
 obtain⟨N',N1,_,_,N3,_⟩:=sF h.gr.2.2;have:N'=N:=by omega
 subst this;obtain⟨e,_,e2,e3⟩:=zBg h.gr.1 (k:=k) k0 (by omega);refine⟨e,?_,e3⟩;unfold zKS;rw[h.gs,bs,J3,zH,N3,bs,zF (by omega) (by omega),bs];rcases tX k 0 ((N':Int)-1)with⟨i1,_⟩|⟨_,i2⟩
 ·rw[i1,bs,J3,zH,e2,bs]
 ·exact absurd ⟨k0,by omega⟩ i2
end
section
variable {x:SPr}{m:zB}{D:Nat}{vals:Mx} (h:IsD x m D vals)
 include h
theorem IsD.zval{e:Vec}(he:V (suf x 0) e):zval m D vals e=dU↔evd m D vals e=z0 D:=by
 have h3:=h.ok.d3;have hr:Row m.Prime D (evd m D vals e):=h.ev;have z:=(zFV h.gr.1 h.ok h.vo he).2.2;have e0:∀i,i<D→at0 (z0 D) i=0:=fun i hi=>by rw[z0,uW,zT hi]
 have cN:(z0 D).length=D:=by simp[z0]
 have key:(∀i,i<(evd m D vals e).length→at0 (evd m D vals e) i=0)↔evd m D vals e=z0 D:=by
  rw[hr.1];constructor
  ·intro g
   rw[vO hr.1,vO cN];exact yC fun j hj=>by rw[g j hj,e0 j hj]
  ·intro g i hi
   rw[g];exact e0 i hi
 rw[←key];rcases kJ (v:=evd m D vals e) (by rw[hr.1];omega)with⟨a,b⟩|⟨a,b⟩
 ·rw[show f_Q (Go.Pl.ev m D vals (z0 D) (nw 0 e))=dS dU from a]at z
  exact⟨fun _=>b,fun _=>(Lh.inj z).symm⟩
 ·rw[show f_Q (Go.Pl.ev m D vals (z0 D) (nw 0 e))=dS dV from a]at z
  rw[←Lh.inj z];exact⟨fun g=>(by cases g),fun g=>absurd g b⟩
theorem IsD.kernel{N:Nat}(hN:pr x.zA x.zA.length=(N:Int))(hN2:N≤729){y:Vec}(hy:V (suf x 0) y):zCc x (· ∈(els x N).filter (Go.Pl.zval m D vals)) y↔evd m D vals y=z0 D:=by
 have h7:=h.ok.p.pos;have hz:=kI (p:=m.Prime) (D:=D) (by omega);have cN:∀{A:Mx},xW m.Prime D (z0 D) A=z0 D:=zC1;have F:=zFg h.gr.1 h.gr.2.1;have G:=g0 h.gr.1 h.gr.2.1;have gN:∀a∈(els x N).filter (Go.Pl.zval m D vals),V (suf x 0) a∧evd m D vals a=z0 D:=fun a ha=>by obtain⟨a1,a2⟩:=Gm.1 ha;obtain⟨k,k1,rfl⟩:=Je.1 a1;have hv:=(zBh h.gr.1 (k:=k) (by have:=Jx.1 k1;omega)).2.2;exact⟨hv,(h.zval hv).1 a2⟩
 have e1:evd m D vals (zeros (suf x 0).length)=z0 D:=by show Go.Pl.ev m D vals (z0 D) (nw 0 (zeros (suf x 0).length))=z0 D;rw[zHZ];rfl
 constructor
 ·intro g
  have key:V (suf x 0) y∧evd m D vals y=z0 D:=by
   clear hy
   induction g with
   |one=>exact⟨G.ein,e1⟩
   |x hx=>exact gN _ hx
   |m _ _ h1 h2=>
    refine⟨G.cl h1.1 h2.1,?_⟩;rw[h.mul h1.1 h2.1,h1.2,h2.2,cN];exact qF hz
   |i _ hb hm h1=>
    refine⟨hb,?_⟩;have:=h.mul h1.1 hb;rw[hm,e1,h1.2,cN,show adv m.Prime D (z0 D) (evd m D vals _)=evd m D vals _ from qF h.ev]at this;exact this.symm
  exact key.2
 ·intro g
  obtain⟨k,k1,rfl⟩:=zZ5 h.gr.1 hy hN (by omega);refine .x (Gm.2 ⟨Je.2 ⟨k,Jx.2 k1,rfl⟩,(h.zval hy).2 g⟩)
end
theorem zDj(c:List Int)(hb:∀i(h:i<c.length),0≤c[i]∧c[i]≤255):zXu c=dS dU:=by
 unfold zXu yAd
 by_cases hl:(c.length:Int)> 4096
 ·rw[zIp,bs,dX hl,zI]
 refine zDi hb (P:=fun r=>DrP r.1∧DrM r.2.1∧r.2.2.length≤100) (fun s hs e=>by rw[e,bs];exact .bd (zAk hs (by simp) (by simp)) fun r0 aO=>.bd (zIs aO.1) fun r hr=>.rt ⟨hr.1,hr.2.1,hr.2.2.1⟩) fun r hr=>?_
 obtain⟨x,m,vals⟩:=r;obtain⟨hx,hm,hv⟩:=hr;simp only at hx hm hv ⊢
 have nl:zG8 [] []=dS dU:=zAx (A:=[]) (by simp) (by simp);have stop:∀{k:Int},k≠0→zNd x m vals=dS ([],k)→zKM x m vals=dS ([],k)→_:=fun{k} hk s1 i1=>show((zKM x m vals).bind fun r3=>(zNd x m vals).bind fun r4=>cond (r3.2 != r4.2) (dS dV) ((zG8 r3.1 r4.1).bind fun r5=>cond (!r5) (dS dV) (cond (r3.2 != 0) (dS dU) (
     (zXr x r4.1).bind fun r6=>
     cond (!r6) (
      dS dV) (
      (zKR c 2203).bind fun r7=>
      (zIG x).bind fun r8=>
      (zE (zPZ (x,m,vals) r4 r8) (r7.b,r7.i,r7.h,0)).bind fun r17=>
      match r17 with
      |(.inl r17)=>
       dS dU
      |(.inr r17)=>
       dS r17)))))=dS dU by
  rw[i1,bs,s1,bs];simp only[bne_self_eq_false,zH,nl,bs,J3,tI hk,zI]
 rcases zGr hx hm (show vals.length≤1048576 by omega)with⟨D,h⟩|⟨k,hk,s1,i1⟩
 ·have h3:=h.ok.d3
  have h7:=h.ok.p.pos;have h6:=h.gr.1.os.1;obtain⟨N,n0,n5,n6,n7⟩:=h.toIsM.order;obtain⟨N',n1,n2,n3,n4,n8⟩:=sF h.gr.2.2;have:N'=N:=by omega
  subst this;have c1:=(zDD h.toIsM h.vo).1 h.rd;have c2:=(zDC h.toIsM h.vo).2.1 h.rd
  by_cases hN:(N':Int)> 128
  ·refine stop (k:=3) (by omega) ?_ ?_
   ·unfold zNd
    rw[c1,bs,show((0:Int) != 0)=dV from rfl,zH,n4,bs,dX hN,zI]
   ·unfold zKM
    rw[c2,bs,show((0:Int) != 0)=dV from rfl,zH,n3,bs,dX hN,zI]
  ·have hM:∀a∈(els x N').filter (zval m D vals),V (suf x 0) a:=fun a hm=>by
    obtain⟨k,k1,rfl⟩:=Je.1 (Gm.1 hm).1;exact(zBh h.gr.1 (by have:=Jx.1 k1;omega)).2.2
   have de:=List.length_filter_le (zval m D vals) (els x N');rw[zFj]at de;obtain⟨C,d1,d2⟩:=zOf h.gr.1 h.gr.2.1 hM (by omega);obtain⟨E,e1,e2⟩:=zQF h.gr.1 h.gr.2.1 h.ok h.vo n2 n8;have e:=zMr h.gr.1 h.gr.2.1 d2 e2 fun _=>Iff.rfl
   have hs:zNd x m vals=dS (wU C 0 x.zA.length,0):=by unfold zNd;rw[c1,bs,show((0:Int) != 0)=dV from rfl,zH,n4,bs,dW hN,zH,zTi h.gr.1 h.ok h.vo n2 n4,bs,d1,bs]
   have hi:zKM x m vals=dS (wU C 0 x.zA.length,0):=by unfold zKM;rw[c2,bs,show((0:Int) != 0)=dV from rfl,zH,n3,bs,dW hN,zH,e1,bs,e]
   have gI:=zIk C 0 x.zA.length;have gu:∀a∈wU C 0 x.zA.length,V (suf x 0) a:=fun a ha=>by obtain⟨k,_,hk⟩:=U1.1 ha;exact(d2.i hk).2.2.1
   have bj:=zI8 h.gr.1 h.gr.2.1 h.gr.2.2 hM d2;rw[hi,bs,hs,bs];simp only[bne_self_eq_false,zH];rw[zAx (by omega) (fun r hr=>by have:=(h.toIsM.small (gu r hr)).1;omega),bs];unfold zXr;simp only[beq_self_eq_true,J3,zH,bj,bs];refine yBR (.bd (zK8 hb (by omega)) fun d hd=>?_);rw[n7,bs];refine .bd (P:=fun r:Unit⊕Bool=>r=.inl ()) (.lp (fun i t=>t.2.2.2=i∧Die ⟨t.1,t.2.1,t.2.2.1⟩) 6 ⟨rfl,hd⟩ fun i t hi ht=>?_) fun r hr=>by rw[hr];exact .rt rfl
   unfold zPZ;rw[ht.1];refine .cd (fun hl=>.bd (zIq ht.2 (by simp only;omega)) fun r hr=>?_) fun _=>.rt rfl
   simp only[decide_eq_true_eq]at hl;obtain⟨e,e1,e2⟩:=h.toIsM.elem n1 n2 hr.1 hr.2.1;have fa:Row m.Prime D (evd m D vals e):=h.ev;rw[e1,bs];simp only
   have d8:∃b,zXt x (wU C 0 x.zA.length) e=dS (b,0)∧(b=dU↔evd m D vals e=z0 D):=by
    unfold zXt;rw[bj,bs,J3,zH,h.ei e2,bs,J3,zH];rcases(zMy h.gr.1 h.gr.2.1 hM d2 e2).iff (h.kernel n1 n2 e2)with⟨a,b⟩|⟨a,b⟩
    ·exact⟨dU,by rw[a,bs],by simp[b]⟩
    ·exact⟨dV,by rw[a,bs],by simp[b]⟩
   obtain⟨b,b1,b2⟩:=d8;have hz:zVd (evd m D vals e)=dS b:=by
    have e0:∀i,i<D→at0 (z0 D) i=0:=fun i hi=>by rw[z0,uW,zT hi]
    rcases zYe (v:=evd m D vals e) (by rw[fa.1];omega)with⟨a,k⟩|⟨a,k⟩
    ·rw[a,b2.2 (by
      have cN:(z0 D).length=D:=by simp[z0]
      rw[vO fa.1,vO cN];exact yC fun j hj=>by rw[k j (by rw[fa.1];exact hj),e0 j hj])]
    ·rw[a]
     cases b with
     |false=>rfl
     |true=>exact absurd (fun i hi=>by rw[b2.1 rfl];exact e0 i (by rw[fa.1]at hi;exact hi)) k
   rw[b1,bs,h.at_i e2,bs,h.at_s e2,bs];simp only[bne_self_eq_false,zH];rw[wG (by rw[fa.1];omega),bs];simp only[beq_self_eq_true,J3,zH];rw[hz,bs,bne_self_eq_false,zH];exact .rg (by omega) (.rt ⟨by omega,by simp only;omega,hr.2.2⟩)
 ·refine stop hk ?_ ?_
  ·unfold zNd;rw[s1,bs,tI hk,zI]
  ·unfold zKM;rw[i1,bs,tI hk,zI]
theorem zBB(c:List Int)(h:VL VU c):zXu c=dS dU:=zDj c (vu h)
end Go.Pl
