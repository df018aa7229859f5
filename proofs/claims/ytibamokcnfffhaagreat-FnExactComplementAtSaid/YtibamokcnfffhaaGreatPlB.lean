/- The program's ComplementAt returns what the reference's returns,for all arguments;no conditions. -/
import Derived.Test.YtibamokcnfffhaaGreatPlA
import Derived.Test.YtibamokcnfffhaaGreatWF
open List renaming replicate→J1,getD_eq_getElem?_getD→J3,getElem?_eq_getElem→J5,length_append→J7,append_assoc→J9,getElem?_append_right→Ja,replicate_append_replicate→Jb,mem_map→Je,append_nil→Jf,length_singleton→Ji,length_map→Jj,range→Jk,length_cons→Jl,map_cons→Jn,getElem?_map→Jo,mem_cons→Jp,take_of_length_le→Jq,getElem?_replicate→Js,mem_append→Jt,eq_nil_of_length_eq_zero→Ju,getElem?_append_left→Jv,nil_append→Jw,getElem_mem→Jx,length_replicate→Jy,all_eq_true→K0,mem_iff_getElem→K1,replicate_succ→K6,take_left'→K7,drop_append_of_le_length→K9,ext_getElem?→Kd,take_succ_cons→Ke,getElem?_eq_none→Kh,set_cons_succ→Kk,take_zero→Ko,mem_range→Ku,range_succ→Kv,drop_eq_getElem_cons→Kx,cons_append→Kz,drop_left'→L5,map_append→Ld,getElem?_drop→Ln,drop_replicate→Lo,length_set→Lq,drop_of_length_le→H6,filterMap_cons→H7,range'_succ→He,length_nil→Hu,range'→Hy,getD_cons_zero→Gv,map_nil→U0,getD→Ud,length→Uf,map_map→Uh,length_drop→Us,mem_of_mem_drop→Q7,range_succ_eq_map→Qi,drop_zero→Qk,cons→Ql,map_congr_left→Ja7,getElem?_set_self→Jab,getElem?_set_ne→Jb4,flatMap_append→Jc5
open Nat renaming zero_add→J6,le_refl→Jh,sub_self→Ka,lt_or_ge→Kb,zero_le→Kn,add_assoc→H0,succ_mul→H3,add_mul→H5,mul_one→Gt,mul_le_mul→Gu,mul_add→Qc,add_zero→Qy,lt_irrefl→Jb3,sub_zero→Jc3,lt_trichotomy→Jc4
open Bool renaming not_true→Jc,not_false→K2
open Int renaming toNat_natCast→Jd,emod_eq_of_lt→Jr,zero_add→Ky,emod_lt_of_pos→L8,tmod_eq_emod_of_nonneg→Li,add_zero→Lp,emod_emod→Lt,emod_nonneg→Lw,mul_one→Hf,mul_emod→Ho,add_emod_right→U8,add_emod→Ue,one_mul→Ul,toNat_of_nonneg→Qm,emod_self→Qn,zero_mul→Ja3,mul_zero→Ja4,add_emod_emod→Jc6
open Option renaming map_some→Hc,map_none→Ja5
open Option renaming some→ud,none→ue
open Bool renaming true→uf,false→ug
namespace Go.Pl
open Go Go.Ab Go.Wk Go.Pc
theorem zH7{α:Type}{c:α→Nat}{b:Nat}:∀{xs:List α},(∀x∈xs,c x≤b)→sm c xs≤xs.length*b
 | [],_=>by simp[sm]
 |x::xs,h=>by
  have h1:=zH7 (xs:=xs) fun y hy=>h y (by simp[hy])
  grind[sm,H3]
theorem zIw{xs:Mx}{b:Nat}(h:∀i,i<xs.length→(xs.getD i []).length≤b)(i:Nat):(xs.getD i []).length≤b:=by grind
theorem zLn{x:SPr}{n:Nat}(ho:x.zA.length=n)(hn:n≤6):zST x=ud ((base n n:Nat):Int):=by
 unfold zST;rw[ho];have key:∀n:Nat,n<7→((rng ((n:Int)-1)).bind fun v1=>(rng ((n:Int)*v1)).bind fun v2=>(tD v2 2).bind fun v3=>(rng ((n:Int)+v3)).bind fun v4=>ud v4)=ud ((base n n:Nat):Int):=by decide+kernel
 grind
theorem zLo{x:SPr}{n:Nat}(ho:x.zA.length=n)(hn:n≤6):zSV x=ud ((base n n:Nat):Int):=by
 unfold zSV;rw[ho];have key:∀n:Nat,n<7→((rng ((n:Int)+1)).bind fun v1=>(rng ((n:Int)*v1)).bind fun v2=>(tD v2 2).bind fun v3=>ud v3)=ud ((base n n:Nat):Int):=by decide+kernel
 grind
theorem zGp.ofX{x:SPr}{m:zC}{D:Nat}{T:Mx}(hx:zED x)(hm:zU7 x.zA.length m D)(ht:T.length=base x.zA.length x.zA.length)(b9:∀i,(T.getD i []).length≤30):zGp x.zA.length D x m T:=by
 have h6:=hx.n6;refine⟨h6,rfl,hx.pl,hx.cl,fun i hi=>by have:=(hx.tl i hi).2.1;omega,zIw fun i hi=>?_,fun i=>?_,ht,b9,hm⟩
 ·have:=(hx.tl i (by rw[←hx.pl];exact hi)).1.1.1
  omega
 ·rcases Kb i x.zA.length with g|g
  ·refine zIw fun j hj=>?_
   have:=((hx.tl i g).2.2 j hj).1.1;omega
  ·have e:x.zD.getD i []=[]:=by rw[J3,Kh (by rw[hx.cl];exact g)];rfl
   grind
theorem zGp.of{x:SPr}{m:zC}{D:Nat}{T:Mx}(hx:zED x)(hm:MOk x.zA.length m D)(ht:T.length=base x.zA.length x.zA.length)(b9:∀i,(T.getD i []).length≤3):zGp x.zA.length D x m T:=.ofX hx hm.x ht (by grind)
theorem zNA{n D:Nat}{x:SPr}{m:zC}{T:Mx}(h:zGp n D x m T):zBg (ext n D x m T):=by
 have h6:=h.hn;have h3:=h.m.d3;have hF:∀i,i<n→ ∀j,(exF n x m T i j).length≤36:=fun i hi j=>by
  have a1:=h.ce i j;have a2:=h.tl (base n i+j);have a3:=zIw (xs:=m.zJ.getD i []) (b:=30) (fun k hk=>by have pe:=h.m.mat i hi;rw[pe.1]at hk;rw[(pe.2 k hk).1];omega) (j-(n-1-i))
  grind[exF]
 have hC:∀i,c2 (exC n D x m T i)≤1332:=fun i=>by
  unfold exC;split
  ·have:=zH7 (c:=c1) (b:=36) (xs:=gl (n+D-1-i) (exF n x m T i)) (by grind)
   grind
  ·have:=zH7 (c:=c1) (b:=36) (xs:=unC (n+D) i) fun y hy=>by
    obtain⟨j,_,rfl⟩:=Je.1 hy;simp only[c1,vL,yW];omega
   have e:(unC (n+D) i).length=n+D-1-i:=uP
   grind
 refine⟨?_,?_,?_⟩
 ·simp only[S1,c1,ext,J7,Jy,h.o];omega
 ·have:=zH7 (c:=c1) (b:=36) (xs:=gl (n+D) (exP n D x T)) fun y hy=>by
   obtain⟨j,_,rfl⟩:=Je.1 hy;have a1:=h.pl j;have a2:=h.tl j;simp only[c1,exP]
   grind
  rw[uP]at this;have h8:(n+D)*36≤36*36:=by omega
  simp only[S2,ext,c2,uP];omega
 ·have:=zH7 (c:=c2) (b:=1332) (xs:=gl (n+D) (exC n D x m T)) (by grind)
  rw[uP]at this;have h8:(n+D)*1332≤36*1332:=by omega
  simp only[S3,ext,c3,uP];omega
end Go.Pl

namespace Go.Pl
open Go Go.Ab Go.Wk Go.Pc
def zPF(x:SPr):Nat:=c1 x.zA+sm c1 x.zV+sm (sm c1) x.zD
def zTA(x:SPr)(k:Int):SPr:=⟨m1 k x.zA,m2 (k+c1 x.zA) x.zV,m3 (k+c1 x.zA+sm c1 x.zV) x.zD⟩
theorem zMN{x:SPr}(h:zBg x):zPF x≤3145728:=by
 obtain⟨h1,h2,h3⟩:=h;have g2:=zFW (x:=x.zV)
 grind[zKV,zPF]
theorem zCp{x:SPr}{k:Int}(h:zBg x)(k0:0≤k)(k1:k≤1000000000):zSP x k=ud (k+zPF x,zTA x k):=by
 have ht:=zMN h;simp only[zPF]at ht;unfold zSP;rw[zFR h.1 k0 (by omega),bs,jB h.2.1 (by omega) (by omega),bs,zD0 h.2.2 (by omega) (by omega),bs]
 grind[zPF,zTA]
end Go.Pl

namespace Go.Pl
open Go Go.Ab Go.Wk Go.Pc
theorem zNB{xs:Mx}(h:xs.length≤100000)(hl:∀i,i<xs.length→(xs.getD i []).length≤1000000):zTe xs=ud xs:=by
 unfold zTe;rw[zDA (body:=zK7 xs) xs.length (fun i=>xs.getD i []) (fun i acc hi ha=>by
  unfold zK7;simp only
  rw[xH hi,zK,zY [] hi,bs,uX (hl i hi),bs,yC (by simp;omega),bs,zE (by omega) (by omega),bs,cs]) (fun acc=>by
  unfold zK7;simp),bs]
 congr 1
 exact(zUA rfl).symm
end Go.Pl

namespace Go.Pl
open Go Go.Ab Go.Wk Go.Pc
end Go.Pl

namespace Go.Pl
open Go Go.Ab Go.Wk Go.Pc
end Go.Pl

namespace Go.Pl
open Go Go.Ab Go.Wk Go.Pc
end Go.Pl

namespace Go.Pl
open Go Go.Ab Go.Wk Go.Pc
end Go.Pl

namespace Go.Pl
open Go Go.Ab Go.Wk Go.Pc
theorem zSx{u v:List Int}{j:Nat}:at0 (u++v) j=if j<u.length then at0 u j else at0 v (j-u.length):=by grind
theorem zPG{v:List Int}{c j:Nat}:at0 (v.drop c) j=at0 v (c+j):=by simp
theorem zMO{f:Nat→Int}(t:Nat):∀d:Nat,S (t+d) f=S t f+S d (fun i=>f (t+i))
 |0=>by simp[S]
 |d+1=>by rw[←H0];simp only[S];rw[zMO t d];omega
theorem sC{F:Nat→List Int}{m i:Nat}(h:i<m):(gl m F).getD i []=F i:=by grind
end Go.Pl

namespace Go.Pl
open Go Go.Ab Go.Wk Go.Pc
end Go.Pl

namespace Go.Pl
open Go Go.Ab Go.Wk Go.Pc
end Go.Pl

namespace Go.Pl
open Go Go.Ab Go.Wk Go.Pc
section
variable {n D:Nat}{m:zC} (hm:MOk n m D) (hn:n≤9)
 include hm hn
def zWF(m:zC)(D:Nat)(rows:Mx):Prop:=∀i,i<rows.length→Row m.Prime D (rows.getD i [])
theorem zIx{rows:Mx}(hl:rows.length≤1048576):IsB (f_T m rows) (zWF m D rows):=by
 have _:=hn;have h3:=hm.d3;refine tU (body:=zLO m rows) rows.length (fun i=>Row m.Prime D (rows.getD i [])) rfl (fun i hi _=>?_) ?_
 ·refine vV (zBL hm.p (D:=D) (by omega)) (by omega) ?_
  unfold zLO;rw[xH hi,zK,zY [] hi,bs,hm.d]
 ·unfold zLO
  simp
end
end Go.Pl

namespace Go.Pl
open Go Go.Ab Go.Wk Go.Pc
end Go.Pl

namespace Go.Pl
open Go Go.Ab Go.Wk Go.Pc
end Go.Pl

namespace Go.Pl
open Go Go.Ab Go.Wk Go.Pc
end Go.Pl

namespace Go.Pl
open Go Go.Ab Go.Wk Go.Pc
theorem zDD{α:Type}{f:α→α}{a:α}(h:f a=a):∀k,iter k f a=a
 |0=>rfl
 |k+1=>by show iter k f (f a)=a;rw[h];exact zDD h k
theorem zEr{x:SPr}(h:Pres x):∀(d k:Nat),k+d=x.zA.length→wE (suf x k)→ ∀m,d+1≤m→ ∀v,V (suf x k) v→ ∃w,V (suf x k) w∧mul (suf x k) v w=zeros (suf x k).length∧zLH m x k (fv k v)=ud (fv k w)
 |0,k,hk,_,m,hm,v,hv=>by
  have h6:=h.os.1;obtain⟨m,rfl⟩:∃m',m=m'+1:=⟨m-1,by omega⟩;rw[vW (by omega)]at hv ⊢
  obtain rfl:v=[]:=hv;refine⟨[],rfl,rfl,?_⟩;show b_j _ x k _=_;unfold b_j;rw[ui (by omega),zK,yN (by omega),bs]
  simp_all[zeros]
 |d+1,k,hkd,hc,m,hm,v,hv=>by
  have h6:=h.os.1;obtain⟨m,rfl⟩:∃m',m=m'+1:=⟨m-1,by omega⟩;have hk:k<x.zA.length:=by omega
  have ei:=(h.os.2 k hk).pos;have hcQ:wE (suf x (k+1)):=zBH hc 1;have ih:=zEr h d (k+1) (by omega) hcQ m (by omega);have G:=zBI h (by omega) hc;have GQ:=zBI h (by omega) hcQ;have okP:=h.okAt (k:=k) (by omega);have okQ:=h.okAt (k:=k+1) (by omega);have pt:=zAu h (by omega) hv;have cP:=yY x (k+1);obtain⟨w1,w2⟩:=zSp h hk;rw[zZ hk]at hv G okP;obtain⟨a,r,rfl⟩:∃a r,v=a::r:=by
   cases v with
   |nil=>exact hv.elim
   |cons a r=>simp
  have ff:(lvl x k).o=at0 x.zA k:=rfl;obtain⟨⟨a0,a1⟩,hr⟩:=hv;rw[ff]at a1;obtain⟨r',ak,hmr,pi⟩:=ih r hr;have hz:V (suf x (k+1)) (zeros (suf x (k+1)).length):=wD okQ;have hzc:zeros (lvl x k::suf x (k+1)).length=0::zeros (suf x (k+1)).length:=rfl;have bt:∀(c:Int)(u:Vec),0≤c→c<at0 x.zA k→V (suf x (k+1)) u→V (lvl x k::suf x (k+1)) (c::u):=fun c u h0 h1 hu=>⟨⟨h0,h1⟩,hu⟩
  have e2:mul (lvl x k::suf x (k+1)) (0::r) (0::r')=zeros (lvl x k::suf x (k+1)).length:=by
   rw[yK,ff,if_neg (by omega),hzc]
   grind[iter]
  show∃w,_∧_∧b_j (zLH m) x k (fv k (a::r))=ud (fv k w);unfold b_j;rw[uh (by omega),zM,uX (by omega),bs,zBl,bs,zE (by omega) (by omega),bs,cs,Jd,zBk,qN,show zeros (k+1)++r=fv (k+1) r from rfl,pi,bs,bs];rw[zZ hk]
  by_cases ha:a=0
  ·subst ha
   rw[show((0:Int)==0)=uf from rfl,zK];exact⟨0::r',by grind,e2,by rw[fv,←qN]⟩
  ·rw[show(a==0)=ug from by grind,zM,yN (by omega),bs,xL hk,bs,bs,zE (by omega) (by omega),bs,vC,Js,if_pos hk,bs]
   have cZ:(J1 x.zA.length (0:Int)).set k (at0 x.zA k-a)=zeros k++(at0 x.zA k-a)::zeros (suf x (k+1)).length:=by
    have e:J1 x.zA.length (0:Int)=zeros k++0::zeros (x.zA.length-(k+1)):=by simp only[zeros];rw[←K6,Jb];congr 1;omega
    grind[zBk]
   obtain⟨w',ej,hmw,hfw⟩:=ih (lvl x k).w w2;have hA:=bt a _ a0 a1 hz;have hR:=bt 0 r (by omega) (by omega) hr;have aC:=bt 0 r' (by omega) (by omega) ak;have hT:=bt (at0 x.zA k-a) _ (by omega) (by omega) hz;have hW:=bt 0 (lvl x k).w (by omega) (by omega) w2;have mP:=bt 0 w' (by omega) (by omega) ej;have gw:sig (suf x (k+1)) (lvl x k) (zeros (suf x (k+1)).length)=zeros (suf x (k+1)).length:=by grind[sig,kD]
   have e1:mul (lvl x k::suf x (k+1)) (a::zeros (suf x (k+1)).length) (0::r)=a::r:=by rw[yK,ff,if_neg (by omega),show iter (0:Int).toNat (sig (suf x (k+1)) (lvl x k)) (zeros (suf x (k+1)).length)=zeros (suf x (k+1)).length from rfl,GQ.onel hr,Lp]
   have e3:mul (lvl x k::suf x (k+1)) (a::zeros (suf x (k+1)).length) ((at0 x.zA k-a)::zeros (suf x (k+1)).length)=0::(lvl x k).w:=by
    rw[yK,ff,if_pos (by omega),zDD gw,GQ.oner hz,GQ.oner w2]
    grind
   have e4:mul (lvl x k::suf x (k+1)) (0::(lvl x k).w) (0::w')=zeros (lvl x k::suf x (k+1)).length:=by
    rw[yK,ff,if_neg (by omega),hzc]
    grind[iter]
   have u5:=G.cl aC hT;have a8:=G.cl u5 mP;have spA:=zD2 h (k:=k) (by omega);rw[cZ,show fv (k+1) r'=zeros k++0::r' from by rw[qN],spA _ _ (by grind[zZ]) (by grind[zZ]),bs,bs,w1,bs,hfw,bs,show fv (k+1) w'=zeros k++0::w' from by rw[qN],zZ hk];have:=spA _ _ (by rw[zZ hk];exact u5) (by rw[zZ hk];exact mP);rw[zZ hk]at this;rw[this,bs];refine⟨_,a8,?_,rfl⟩;rw[←e1,G.assoc hA hR a8,←G.assoc hR u5 mP,←G.assoc hR aC hT,e2,G.onel hT,←G.assoc hA hT mP,e3,e4]
theorem zKc{x:SPr}(h:Pres x)(hc:wE (suf x 0)){v:Vec}(hv:V (suf x 0) v):∃w,V (suf x 0) w∧mul (suf x 0) v w=zeros (suf x 0).length∧zNU x v=ud w:=by obtain⟨w,h1,h2,_⟩:=zEr h x.zA.length 0 (by omega) hc (x.zA.length+1) (by omega) v hv;refine⟨w,h1,h2,?_⟩;unfold zNU f_j;rw[kP (r:=w) (x.zA.length+1) fun m hm=>?_,bs];obtain⟨w',g1,g2,g3⟩:=zEr h x.zA.length 0 (by omega) hc m hm v hv;have G:=zBI h (by omega) hc;have e:w=w':=G.cancel_l hv h1 g1 (by rw[h2,g2]);rw[e];exact g3
theorem zPH{p:Int}{D:Nat}{A:List Mx}:∀(v:Vec)(o:Nat)(B:Mx),o+v.length≤A.length→wM p D A (nw o v) B=img (PM p D) (A.drop o) v B
 | [],o,B,_=>by simp[nw,wM,img]
 |a::v,o,B,h=>by
  simp only[Jl]at h;have e:A.drop o=A.getD o []::A.drop (o+1):=by grind[Kx]
  rw[e];simp only[nw,img];rw[zEn,zGi,zPH v (o+1) _ (by omega)]
theorem zKd:∀(k o:Nat),nw o (zeros k)=[]
 |0,_=>rfl
 |k+1,o=>by rw[show zeros (k+1)=0::zeros k from rfl];simp only[nw];rw[zKd k];rfl
section
variable {x:SPr}{m:zC}{D:Nat} (h:Pres x) (hm:zU8 x.zA.length m D) (hr:zGH x m D)
 include hm
 include h hr
theorem zMP:∀(d k:Nat),k+d=x.zA.length→Rel (PM m.Prime D) (idM D) (suf x k) (m.zJ.drop k)
 |0,k,hk=>by rw[vW (by omega),H6 (by rw[hm.len];omega)];exact rfl
 |d+1,k,hkd=>by
  have h6:=h.os.1;have hk:k<x.zA.length:=by omega
  have gg:=hm.len;have e:m.zJ.drop k=m.zJ.getD k []::m.zJ.drop (k+1):=by simp_all
  obtain⟨t1,t2,t3⟩:=h.tl k hk;obtain⟨r1,r2⟩:=hr k hk;have bC:∀v,Exp x.zA v k→wM m.Prime D m.zJ (nw 0 v) (idM D)=img (PM m.Prime D) (m.zJ.drop (k+1)) (v.drop (k+1)) (idM D):=fun v hv=>by
   have hl:=hv.1.1
   conv=>lhs;rw[zAB hv hk]
   rw[zEm,zKd,Jw,zU,zPH _ _ _ (by grind),J6]
  rw[zZ hk,e];refine⟨?_,fun q c dd hc hd=>?_,zMP d (k+1) (by omega)⟩
  ·grind[pw,lvl,zGi]
  ·rw[Ln]at hc
   have hq:k+1+q<m.zJ.length:=by grind
   have aA:c=m.zJ.getD (k+1+q) []:=by grind
   have bq:dd=((x.zD.getD k []).getD q []).drop (k+1):=by grind[lvl]
   have:=r2 (k+1+q) (by omega) (by omega);rw[show k+1+q-(k+1)=q from by omega]at this;rw[aA,bq,this,bC _ (t3 q (by omega))]
end
end Go.Pl

namespace Go.Pl
open Go Go.Ab Go.Wk Go.Pc
end Go.Pl

namespace Go.Pl
open Go Go.Ab Go.Wk Go.Pc
end Go.Pl

namespace Go.Pl
open Go Go.Ab Go.Wk Go.Pc
section
variable {x:SPr} (h:Pres x)
 include h
theorem zPI:∀k,k≤x.zA.length→2*((Jk k).flatMap (R2 x)).length+k*k+k=2*(x.zA.length*k)
 |0,_=>by simp
 |k+1,hk=>by
  have ih:=zPI k (by omega);have t2:=(h.tl k (by omega)).2.1;have e:((Jk (k+1)).flatMap (R2 x)).length=((Jk k).flatMap (R2 x)).length+(x.zD.getD k []).length:=by grind[Kv,R2]
  grind
theorem zNC:2*(wL x).length=x.zA.length*(x.zA.length+1):=by
 have:=zPI h x.zA.length (Jh _)
 grind[wL]
end
end Go.Pl

namespace Go.Pl
open Go Go.Ab Go.Wk Go.Pc
end Go.Pl

namespace Go.Pl
open Go Go.Ab Go.Wk Go.Pc
section
variable {x:SPr} (h:Pres x) {m:zC}{D:Nat} (hm:MOk x.zA.length m D)
 include h hm
section
variable {vals:Mx} (hv:VOk x.zA.length m.Prime D vals)
 include hv
theorem zLp:f_m x m vals=ud ((wL x).map (dfc m D vals)):=by
 have h6:=h.os.1;have h7:=hm.p.pos;have h3:=hm.d3;have pE:=h.pl;have gI:=h.cl;have hz:=zIt (p:=m.Prime) (D:=D) (by omega);unfold f_m;rw[hm.d,yN (by omega),bs];have e1:=zDA (body:=zRy x m vals D) x.zA.length (fun i=>dfc m D vals (r1 x i)) (fun i acc hi ha=>by
  obtain⟨p1,p2⟩:=sP h.os (h.tl i hi).1;have ho:=(h.os.2 i hi).pos;unfold zRy;simp only
  rw[xH hi,zK];rw[vD (S:=Row m.Prime D) (body:=zRx x m vals (acc,(i:Int))) (fun v=>v) (fun v=>stp m D vals v i) (at0 x.zA i) (by omega) (by grind[zAX]) (fun u q hu hq=>by
   unfold zRx;simp only
   rw[xL hi,bs,ui hq,zK,zAG hm h6 hv hu hi,bs,zE (by omega) (by omega),bs,cs]) (fun u hu=>by
   unfold zRx;simp only
   rw[xL hi,bs,uh (by omega),zM]) hz,bs,zE (by omega) (by omega),bs,zY [] (by omega),bs,zEH hm h6 hv hz p1 p2,bs,←zLj]
  have e1:f_A m.Prime (ev m D vals (z0 D) (J1 (at0 x.zA i).toNat i)) (m.Prime-1) (ev m D vals (z0 D) (nw 0 (x.zV.getD i [])))=ud (dfc m D vals (r1 x i)):=by rw[sQ hm.p (zCX hm h6 hv hz _) (zCX hm h6 hv hz _) (by omega) (by omega),zCW];rfl
  grind[yC,zE]) (fun acc=>by
  unfold zRy;simp)
 rw[e1,bs];have ay:=zGk h;have e2:=zR (body:=zR0 x m vals D) (r:=(wL x).map (dfc m D vals)) (fun i=>(((Jk x.zA.length).map (fun i=>dfc m D vals (r1 x i)))++((Jk i).flatMap (R2 x)).map (dfc m D vals),(i:Int))) x.zA.length (fun i hi=>by
  have t2:=(h.tl i hi).2.1;have hfi:=ay i (by omega);unfold zR0;simp only
  rw[xH hi,zK,zE (by omega) (by omega),bs,cs];have gW:=zR (body:=zRz x m vals D (((Jk x.zA.length).map (fun i=>dfc m D vals (r1 x i)))++((Jk i).flatMap (R2 x)).map (dfc m D vals),(i:Int)))
   (r:=((Jk x.zA.length).map (fun i=>dfc m D vals (r1 x i)))++((Jk (i+1)).flatMap (R2 x)).map (dfc m D vals))
   (fun j=>(((Jk x.zA.length).map (fun i=>dfc m D vals (r1 x i)))++((Jk i).flatMap (R2 x)).map (dfc m D vals)++(Jk j).map (fun j=>dfc m D vals (r2 x i j)),((i+1+j:Nat):Int))) (x.zD.getD i []).length (fun j hj=>by
   obtain⟨c1,c2⟩:=sP h.os ((h.tl i hi).2.2 j hj);have fZ:i+1+j<x.zA.length:=by omega
   have s1:=zAG hm h6 hv hz fZ;have s2:=zAG hm h6 hv (zAX hm h6 hv (v:=z0 D) (w:=i+1+j)) hi;have s3:=zAG hm h6 hv hz hi;have s4:=zEH hm h6 hv (zAX hm h6 hv (v:=z0 D) (w:=i)) c1 c2;unfold zRz;simp only
   rw[xH fZ,zK,s1,bs,s2,bs,s3,bs,zY [] (by omega),bs,zE (by omega) (by omega),bs,zE (by omega) (by omega),bs,show(((i+1+j:Nat):Int)-(i:Int)-1)=(j:Int)from by omega,zY [] hj,bs,s4,bs,zE (by omega) (by omega),bs];have e2:f_A m.Prime (stp m D vals (stp m D vals (z0 D) (i+1+j)) i) (m.Prime-1) (ev m D vals (stp m D vals (z0 D) i) (nw 0 ((x.zD.getD i []).getD j [])))=ud (dfc m D vals (r2 x i j)):=by
    rw[sQ hm.p (zAX hm h6 hv) (by grind[zCX,zAX]) (by omega) (by omega),zCW];simp only[dfc,r2,ev,List.foldl_cons,List.foldl_nil]
    grind
   rw[e2,bs,yC (by grind[Jj]),bs,zE (by omega) (by omega),bs,cs,Kv,Ld,J9];rfl) (by
   unfold zRz;simp only
   rw[show i+1+(x.zD.getD i []).length=x.zA.length from by omega,tK,zM,Kv (n:=i),Jc5,Ld,←J9];simp[R2])
  simp_all) (by
  unfold zR0;simp only
  rw[tK,zM];simp only[wL,Ld,Uh];rfl)
 simp_all
end
end
end Go.Pl

namespace Go.Pl
open Go Go.Ab Go.Wk Go.Pc
end Go.Pl

namespace Go.Pl
open Go Go.Ab Go.Wk Go.Pc
end Go.Pl

namespace Go.Pl
open Go Go.Ab Go.Wk Go.Pc
theorem zGr{N c:Nat}{f:Nat→Int}:(mkv N f).drop c=mkv (N-c) fun i=>f (c+i):=by
 have hl:((mkv N f).drop c).length=N-c:=by rw[Us,yW]
 grind[sK,xI,zPG,wF]
theorem jG{n j:Nat}:wI n j=mkv n fun i=>if i=j then 1 else 0:=by rw[wI,show zeros n=J1 n (0:Int)from rfl,jE,zD6]
theorem sS{n i:Nat}:at0 (zeros n) i=0:=by
 rcases Kb i n with g|g
 ·simp[zeros,at0,J3,g]
 ·simp[zeros,at0,J3,g]
theorem zC1.p{x:SPr}(h:zC1 x)(hl:x.zA.length≤9):Pres x:=⟨⟨hl,h.os.2⟩,h.pl,h.cl,h.tl⟩
structure ExB (n D:Nat) (x:SPr) (m:zC) (T:Mx):Prop where
 hn:n≤6
 o:x.zA.length=n
 p:x.zV.length=n
 c:x.zD.length=n
 cl:∀i,i<n→(x.zD.getD i []).length=n-1-i
 t:T.length=base n n
 m:zU8 n m D
theorem zGp.b{n D:Nat}{x:SPr}{m:zC}{T:Mx}(h:zGp n D x m T)(hm:MOk n m D):ExB n D x m T:=⟨h.hn,h.o,h.p,h.c,h.cl,h.t,hm.b⟩
section
variable {D:Nat}{x:SPr}{m:zC}{T:Mx} (h:Pres x) (hE:ExB x.zA.length D x m T) (hT:∀i,i<T.length→Row m.Prime D (T.getD i []))
 include h hE hT
abbrev exx(D:Nat)(x:SPr)(m:zC)(T:Mx):SPr:=ext x.zA.length D x m T
theorem uH:(exx D x m T).zA.length=x.zA.length+D:=by have _:=h;have _:=hE;have _:=hT;simp[exx,ext]
theorem zCj{i:Nat}(hi:i<x.zA.length):at0 (exx D x m T).zA i=at0 x.zA i:=by
 have _:=h;have _:=hE;have _:=hT;show at0 (x.zA++J1 D m.Prime) i=_
 grind
theorem zAY{i:Nat}(hi:x.zA.length≤i)(h2:i<x.zA.length+D):at0 (exx D x m T).zA i=m.Prime:=by
 have _:=h;have _:=hE;have _:=hT;show at0 (x.zA++J1 D m.Prime) i=_
 grind
theorem zLq{v t:List Int}{i:Nat}(hv:v.length=x.zA.length)(hr:∀j,j<x.zA.length→0≤at0 v j∧at0 v j≤at0 x.zA j-1)(hz:∀j,j≤i→j<x.zA.length→at0 v j=0)(ht:Row m.Prime D t)(hi:i<x.zA.length):Exp (exx D x m T).zA (v++t) i:=by
 have hl:=uH h hE hT;refine⟨⟨by rw[J7,hv,ht.1,hl],fun j hj=>?_⟩,fun j hj=>?_⟩
 ·rw[J7,hv,ht.1]at hj
  rw[zSx,hv];split
  ·grind[zCj]
  ·next g=>rw[zAY h hE hT (by omega) hj];exact ht.2 _ (by omega)
 grind
theorem zKe(i:Nat)(hi:i<base x.zA.length x.zA.length):Row m.Prime D (T.getD i []):=by have _:=h;exact hT i (by rw[hE.t];exact hi)
theorem zFa:zC1 (exx D x m T):=by
 have hn:=hE.hn;have h3:=hE.m.d3;have h7:=hE.m.p.pos;have hl:=uH h hE hT;have hb:=tX x.zA.length (by omega);refine⟨⟨trivial,fun i hi=>?_⟩,by rw[hl];exact uP,by rw[hl];exact uP,fun i hi=>?_⟩
 ·rw[hl]at hi
  rcases Kb i x.zA.length with g|g
  ·rw[zCj h hE hT g];exact h.os.2 i g
  ·rw[zAY h hE hT g hi];exact hE.m.p
 ·rw[hl]at hi
  have hP:(exx D x m T).zV.getD i []=exP x.zA.length D x T i:=sC hi;have hC:(exx D x m T).zD.getD i []=exC x.zA.length D x m T i:=by
   show(gl (x.zA.length+D) (exC x.zA.length D x m T)).getD i []=_
   grind
  refine⟨?_,?_,?_⟩
  ·rw[hP,exP]
   rcases Kb i x.zA.length with g|g
   ·rw[if_pos g]
    obtain⟨t1,_,_⟩:=h.tl i g;exact zLq h hE hT t1.1.1 (fun j hj=>t1.1.2 j (by rw[t1.1.1];exact hj)) (fun j hj _=>t1.2 j hj) (by grind[zKe]) g
   ·rw[if_neg (by omega)]
    have hz:∀j,at0 (J1 (x.zA.length+D) (0:Int)) j=0:=fun j=>sS
    refine⟨⟨by grind,fun j hj=>?_⟩,fun j _=>hz j⟩;rw[Jy]at hj;rw[hz];rcases Kb j x.zA.length with g2|g2
    ·rw[zCj h hE hT g2];have:=(h.os.2 j g2).pos;omega
    grind[zAY]
  ·grind[exC,unC]
  ·rw[hC,exC]
   split
   ·next g=>
    intro j hj;rw[uP]at hj;rw[sC hj,exF];split
    ·next g2=>
     have gI:=hE.cl i g;have cf:=zDC x.zA.length (by omega) i g;obtain⟨_,_,t3⟩:=h.tl i g;have t:=t3 j (by omega);exact zLq h hE hT t.1.1 (fun q hq=>t.1.2 q (by rw[t.1.1];exact hq)) (fun q hq _=>t.2 q hq) (by grind[zKe]) g
    ·next g2=>
     have hz:∀j,at0 (J1 x.zA.length (0:Int)) j=0:=fun j=>sS
     refine zLq h hE hT (by simp) (fun q hq=>?_) (fun q _ _=>hz q) ((hE.m.mat i g).2 _ (by omega)) g;rw[hz];have:=(h.os.2 q hq).pos;omega
   ·next g=>
    intro j hj;rw[unC,uP]at hj;rw[unC,sC hj];refine⟨⟨by rw[hl];exact yW _ _,fun q hq=>?_⟩,fun q hq=>?_⟩
    ·rw[vL,yW]at hq
     rw[vL,wF hq];rcases Kb q x.zA.length with g2|g2
     ·rw[zCj h hE hT g2];have:=(h.os.2 q g2).pos;omega
     grind[zAY]
    ·rw[vL,wF (by omega),if_neg (by omega)]
theorem zGs{k:Nat}(hk:k<x.zA.length):(lvl (exx D x m T) k).o=at0 x.zA k:=zCj h hE hT hk
theorem zTB{k:Nat}(hk:k<x.zA.length):(lvl (exx D x m T) k).w=(lvl x k).w++T.getD k []:=by have t1:=(h.tl k hk).1.1.1;have _:=hE;have _:=hT;show((exx D x m T).zV.getD k []).drop (k+1)=_;have hP:(exx D x m T).zV.getD k []=exP x.zA.length D x T k:=sC (by omega);rw[hP,exP,if_pos hk,K9 (by omega)];rfl
def eC1(x:SPr)(T:Mx)(k:Nat):List Vec:=gl (x.zA.length-1-k) fun j=>(lvl x k).cs.getD j []++T.getD (base x.zA.length k+j) []
def eC2(x:SPr)(m:zC)(D k:Nat):List Vec:=((gl D fun j=>(m.zJ.getD k []).getD j []).map fun r=>zeros (x.zA.length-1-k)++r)
theorem zGt{k:Nat}(hk:k<x.zA.length):(lvl (exx D x m T) k).cs=eC1 x T k++eC2 x m D k:=by
 have gI:=hE.cl k hk;have _:=hT;show((exx D x m T).zD.getD k []).map (·.drop (k+1))=_;have hC:(exx D x m T).zD.getD k []=exC x.zA.length D x m T k:=by
  show(gl (x.zA.length+D) (exC x.zA.length D x m T)).getD k []=_
  grind
 rw[hC,exC,if_pos hk];apply Kd;intro j
 by_cases hj:j<x.zA.length+D-1-k
 ·have e1:((gl (x.zA.length+D-1-k) (exF x.zA.length x m T k)).map (·.drop (k+1)))[j]? =ud ((exF x.zA.length x m T k j).drop (k+1)):=by grind
  rw[e1,exF]
  by_cases g:j<x.zA.length-1-k
  ·rw[if_pos g,Jv (by grind[eC1])]
   have t:=(h.tl k hk).2.2 j (by omega);rw[K9 (by have:=t.1.1;omega)];have e2:(eC1 x T k)[j]? =ud ((lvl x k).cs.getD j []++T.getD (base x.zA.length k+j) []):=by simp[eC1,gl,g]
   rw[e2]
   congr 2
   simp only[lvl,J3,Jo]
   grind
  ·rw[if_neg g,Ja (by grind[eC1]),eC1,uP]
   have e2:(eC2 x m D k)[j-(x.zA.length-1-k)]? =ud (zeros (x.zA.length-1-k)++(m.zJ.getD k []).getD (j-(x.zA.length-1-k)) []):=by simp[eC2,gl,show j-(x.zA.length-1-k)<D by omega]
   rw[e2,K9 (by simp;omega),Lo,show x.zA.length-(k+1)=x.zA.length-1-k from by omega];rfl
 ·rw[Kh (by grind),Kh (by simp[eC1,eC2,gl];omega)]
end
def tlv(p:Int):Nat→Pcp
 |0=>[]
 |d+1=>⟨p,zeros d,xU d⟩::tlv p d
theorem zFb{p:Int}:∀d,(tlv p d).length=d
 |0=>rfl
 |d+1=>by simp[tlv,zFb d]
theorem zEI{p:Int}:∀(d:Nat)(v:Vec),V (tlv p d) v↔Row p d v
 |0,v=>by
  constructor
  ·intro h
   obtain rfl:v=[]:=h;exact⟨rfl,fun i hi=>by omega⟩
  ·intro h
   have:=Ju h.1;subst this;exact rfl
 |d+1,v=>by
  cases v with
  |nil=>exact⟨fun h=>h.elim,fun h=>by have:=h.1;grind⟩
  |cons a v=>
   show((0≤a∧a<p)∧V (tlv p d) v)↔_;rw[zEI d v];constructor
   ·rintro⟨⟨h0,h1⟩,h2⟩
    refine⟨by simp[h2.1],fun i hi=>?_⟩;cases i with
    |zero=>grind
    |succ i=>have:=h2.2 i (by omega);grind
   ·intro h
    have h0:=h.2 0 (by omega);simp only[at0,Gv]at h0;refine⟨⟨h0.1,by omega⟩,by have:=h.1;grind,fun i hi=>?_⟩;have:=h.2 (i+1) (by omega)
    grind
abbrev adv(p:Int)(D:Nat)(u v:List Int):List Int:=mkv D fun j=>(at0 u j+at0 v j)%p
theorem zAk{p:Int}{D:Nat}{u v:List Int}(hp:0<p):Row p D (adv p D u v):=by refine⟨yW _ _,fun j hj=>?_⟩;rw[wF hj];have e1:=Lw (at0 u j+at0 v j) (show p≠0 by omega);have e2:=L8 (at0 u j+at0 v j) hp;omega
theorem zGu{p:Int}{D:Nat}{c:List Int}(hp:0<p):∀(k:Nat)(acc:List Int),Row p D acc→iter k (fun w=>adv p D w c) acc=mkv D fun j=>(at0 acc j+(k:Int)*at0 c j)%p
 |0,acc,ha=>by
  show acc=_
  conv=>lhs;rw[sK ha.1]
  refine xI fun j hj=>?_
  have:=ha.2 j hj;rw[Int.natCast_zero,Ja3,Lp,Jr this.1 (by omega)]
 |k+1,acc,ha=>by
  show iter k (fun w=>adv p D w c) (adv p D acc c)=_;rw[zGu hp k _ (zAk hp)];refine xI fun j hj=>?_
  grind[wF,Ue,Lt]
theorem zUB{f:Nat→Int}{n:Nat}:S (n+1) f=f 0+S n fun i=>f (i+1):=by
 rw[Nat.add_comm,zMO 1 n];simp only[S]
 grind
theorem zFc{p:Int}{D:Nat}(hp:0<p):∀(cs:List Vec)(v acc:Vec),v.length=cs.length→(∀i,i<v.length→0≤at0 v i)→Row p D acc→img (adv p D) cs v acc=mkv D fun j=>(at0 acc j+S cs.length fun k=>at0 v k*ent cs k j)%p
 | [],v,acc,hl,_,ha=>by
  show acc=_
  conv=>lhs;rw[sK ha.1]
  refine xI fun j hj=>?_
  have:=ha.2 j hj;simp only[Hu,S];rw[Lp,Jr this.1 (by omega)]
 |c::cs,[],acc,hl,_,_=>by simp at hl
 |c::cs,a::v,acc,hl,hv,ha=>by
  have h0:=hv 0 (by simp);simp only[at0,Gv]at h0;have eT:Row p D (iter a.toNat (fun w=>adv p D w c) acc):=vB (S:=Row p D) (fun _ _=>zAk hp) _ ha;show img (adv p D) cs v (iter a.toNat (fun w=>adv p D w c) acc)=_;rw[zFc hp cs v _ (by grind) (fun i hi=>by have:=hv (i+1) (by grind);grind) eT,zGu hp _ _ ha];refine xI fun j hj=>?_
  rw[wF hj,Jl,zUB,Ue,Lt,←Ue,Qm h0,Int.add_assoc];rfl
theorem zCk{α:Type}{S:α→Prop}{m m':α→α→α}(hm:∀a b,S a→S b→m a b=m' a b)(hc:∀a b,S a→S b→S (m' a b)):∀(cs:List α)(v:Vec)(acc:α),(∀c∈cs,S c)→S acc→img m cs v acc=img m' cs v acc
 | [],_,_,_,_=>by simp[img]
 |c::cs,[],_,_,_=>by simp[img]
 |c::cs,a::v,acc,h1,h2=>by
  have tu:=h1 c (by simp);have e:∀k acc,S acc→iter k (fun w=>m w c) acc=iter k (fun w=>m' w c) acc∧S (iter k (fun w=>m' w c) acc):=by
   intro k
   induction k with
   |zero=>intro acc ha;exact⟨rfl,ha⟩
   |succ k ih=>
    intro acc ha;show iter k (fun w=>m w c) (m acc c)=iter k (fun w=>m' w c) (m' acc c)∧_;rw[hm acc c ha tu];exact ih _ (hc _ _ ha tu)
  show img m cs v (iter a.toNat (fun w=>m w c) acc)=img m' cs v (iter a.toNat (fun w=>m' w c) acc);rw[(e _ _ h2).1];exact zCk hm hc cs v _ (by grind) (e _ _ h2).2
theorem zCl{d k j:Nat}(hk:k<d)(hj:j<d):ent (xU d) k j=if j=k then 1 else 0:=by
 have e:(xU d).getD k []=wI d k:=by grind[xU]
 rw[ent,e,jG,wF hj]
theorem sW{p:Int}{D:Nat}(hp:0<p):Row p D (zeros D):=zIt hp
theorem qW{p:Int}(hp:2≤p):∀(d:Nat)(u v:Vec),Row p d u→Row p d v→mul (tlv p d) u v=adv p d u v
 |0,u,v,hu,_=>by rfl
 |d+1,u,v,hu,hv=>by
  have ih:=qW hp d;have b8:=(zEI (d+1) u).2 hu;have px:=(zEI (d+1) v).2 hv;cases u with
  |nil=>exact b8.elim
  |cons a u=>
   cases v with
   |nil=>exact px.elim
   |cons b v=>
    obtain⟨⟨a0,a1⟩,hu2⟩:=b8;obtain⟨⟨b0,b1⟩,ek⟩:=px;have hu3:=(zEI d u).1 hu2;have eD:=(zEI d v).1 ek;change a<p at a1;change b<p at b1;have eF:∀w,Row p d w→sig (tlv p d) ⟨p,zeros d,xU d⟩ w=w:=fun w hw=>by
     have aO:∀c∈xU d,Row p d c:=fun c hc=>by obtain⟨k,hk,rfl⟩:=Je.1 hc;rw[jG];exact⟨yW _ _,by grind[wF]⟩
     unfold sig;rw[zFb,zCk (S:=Row p d) (m':=adv p d) (by omega) (fun _ _ _ _=>zAk (by omega)) (xU d) w _ aO (sW (by omega)),zFc (by omega) (xU d) w _ (by rw[hw.1];simp[xU]) (fun i hi=>(hw.2 i (by rw[←hw.1];exact hi)).1) (sW (by omega))]
     conv=>rhs;rw[sK hw.1]
     refine xI fun j hj=>?_
     have fm:(xU d).length=d:=by simp[xU]
     have:=hw.2 j hj;rw[fm,sS,Ky,zGe (k:=j) hj (fun k hk gj=>by rw[zCl hk hj,if_neg (Ne.symm gj),Ja4]),zCl hj hj,if_pos rfl,Hf,Jr this.1 (by omega)]
    have er:∀k,iter k (sig (tlv p d) ⟨p,zeros d,xU d⟩) u=u:=by grind[zDD]
    show mul (⟨p,zeros d,xU d⟩::tlv p d) (a::u) (b::v)=_;rw[yK,er,ih u v hu3 eD];have hz:adv p d (zeros d) (adv p d u v)=adv p d u v:=by
     refine xI fun j hj=>?_
     rw[wF hj,sS,Ky,Lt]
    rw[ih _ _ (sW (by omega)) (zAk (by omega)),hz];have tp:adv p (d+1) (a::u) (b::v)=(a+b)%p::adv p d u v:=by
     simp only[adv,mkv,Qi,Jn,Uh]
     congr 1
    rw[tp];split
    ·next g=>
     have g:a+b≥p:=g;have e:(a+b)%p=a+b-p:=by rw[show a+b=(a+b-p)+p from by omega,U8,Jr (by omega) (by omega)];omega
     grind
    ·next g=>
     have g:¬a+b≥p:=g
     congr 1
     exact(Jr (by omega) (by omega)).symm
end Go.Pl

namespace Go.Pl
open Go Go.Ab Go.Wk Go.Pc
theorem zMQ{α:Type}{m:α→α→α}:∀(c1:List α)(y:Vec)(c2:List α)(u:Vec)(acc:α),c1.length=y.length→img m (c1++c2) (y++u) acc=img m c2 u (img m c1 y acc)
 | [],[],_,_,_,_=>by rfl
 | [],_::_,_,_,_,h=>by simp at h
 |_::_,[],_,_,_,h=>by simp at h
 |c::c1,a::y,c2,u,acc,h=>zMQ c1 y c2 u _ (by grind)
theorem zGv{α β:Type}{S:α→Prop}{m:α→α→α}{n:β→β→β}(φ:α→β)(hS:∀a b,S a→S b→S (m a b))(hm:∀a b,S a→S b→φ (m a b)=n (φ a) (φ b)):∀(cs:List α)(v:Vec)(a:α),(∀c∈cs,S c)→S a→φ (img m cs v a)=img n (cs.map φ) v (φ a)
 | [],v,a,_,_=>by rfl
 |_::_,[],_,_,_=>rfl
 |c::cs,t::v,a,hc,ha=>by
  have tu:=hc c (by simp);have e:∀k a,S a→φ (iter k (fun w=>m w c) a)=iter k (fun w=>n w (φ c)) (φ a)∧S (iter k (fun w=>m w c) a):=by
   intro k
   induction k with
   |zero=>intro a ha;exact⟨rfl,ha⟩
   |succ k ih=>
    intro a ha;have:=ih (m a c) (hS _ _ ha tu);rw[hm a c ha tu]at this;exact this
  show φ (img m cs v (iter t.toNat (fun w=>m w c) a))=img n (cs.map φ) v (iter t.toNat (fun w=>n w (φ c)) (φ a));rw[←(e _ a ha).1];exact zGv φ hS hm cs v _ (by grind) (e _ a ha).2
theorem zKf{p:Int}{D:Nat}{r:List Int}(hr:Row p D r):tL p D r (idM D)=r:=by
 conv=>rhs;rw[sK hr.1]
 refine xI fun j hj=>?_
 have:=hr.2 j hj;have e:∀l,l<D→ent (idM D) l j=if j=l then 1 else 0:=fun l hl=>by rw[ent,zCi hl,wF hj]
 rw[zGe (k:=j) hj (by grind),e j hj,if_pos rfl,Hf,kG this]
theorem zMR{p:Int}{D:Nat}{r:List Int}{A B:Mx}(hA:A.length=D):tL p D (tL p D r A) B=tL p D r (PM p D A B):=by
 refine xI fun j hj=>?_
 have e1:S D (fun l=>at0 (tL p D r A) l*ent B l j)%p=S D (fun l=>S D (fun i=>at0 r i*ent A i l)*ent B l j)%p:=zJI (by grind[tL,wF,Ho,Lt]);have e2:S D (fun l=>at0 r l*ent (PM p D A B) l j)%p=S D (fun i=>at0 r i*S D (fun l=>ent A i l*ent B l j))%p:=zJI (by grind[zLh,Ho,Lt]);rw[e1,e2]
 congr 1
 have e3:S D (fun l=>S D (fun i=>at0 r i*ent A i l)*ent B l j)=S D (fun l=>S D (fun i=>at0 r i*ent A i l*ent B l j)):=zCg (by grind[zP4]);rw[e3,zLg];refine zCg fun i _=>?_
 rw[←zLf];exact zCg (by grind)
theorem zLr{p:Int}{D:Nat}{v:List Int}(hv:Row p D v):adv p D (zeros D) v=v:=by
 conv=>rhs;rw[sK hv.1]
 refine xI fun j hj=>?_
 rw[sS,Ky,kG (hv.2 j hj)]
theorem zPJ{p:Int}{D:Nat}{acc v:List Int}{A:Mx}(hl:A.length=D):(mkv D fun j=>(at0 acc j+S A.length fun k=>at0 v k*ent A k j)%p)=adv p D acc (tL p D v A):=by grind[xI,tL,wF,Jc6]
theorem zBM{p:Int}{D:Nat}{u v:List Int}:adv p D u v=adv p D v u:=by grind
section
variable {D:Nat}{x:SPr}{m:zC}{T:Mx} (h:Pres x) (hE:ExB x.zA.length D x m T) (hT:∀i,i<T.length→Row m.Prime D (T.getD i []))
 include h hE hT
theorem zAZ:∀(d k:Nat),x.zA.length≤k→k+d=x.zA.length+D→suf (exx D x m T) k=tlv m.Prime d
 |0,k,hk,hd=>by rw[vW (by grind[uH])];rfl
 |d+1,k,hk,hd=>by
  have hl:=uH h hE hT;rw[zZ (by omega),zAZ d (k+1) (by omega) (by omega),tlv]
  congr 1
  have hP:(exx D x m T).zV.getD k []=exP x.zA.length D x T k:=sC (by omega);have hC:(exx D x m T).zD.getD k []=exC x.zA.length D x m T k:=by
   show(gl (x.zA.length+D) (exC x.zA.length D x m T)).getD k []=_
   grind
  unfold lvl;rw[hP,hC,exP,exC,if_neg (by omega),if_neg (by omega),zAY h hE hT hk (by omega),Lo,show x.zA.length+D-(k+1)=d from by omega]
  congr 1
  rw[unC,xU,gl,Uh,show x.zA.length+D-1-k=d from by omega];refine Ja7 fun j hj=>?_
  have hj:=Ku.1 hj;show(vL (x.zA.length+D) (k+1+j)).drop (k+1)=wI d j;rw[vL,zGr,jG,show x.zA.length+D-(k+1)=d from by omega];simp
theorem zC7:∀(d k:Nat),k+d=x.zA.length→ ∀v,V (suf (exx D x m T) k) v↔ ∃y u,v=y++u∧V (suf x k) y∧Row m.Prime D u
 |0,k,hk,v=>by
  rw[zAZ h hE hT D k (by omega) (by omega),zEI,vW (x:=x) (k:=k) (by omega)];constructor
  ·intro g;exact⟨[],v,rfl,rfl,g⟩
  ·rintro⟨y,u,rfl,hy,hu⟩
   obtain rfl:y=[]:=hy;exact hu
 |d+1,k,hk,v=>by
  have hl:=uH h hE hT;have ih:=zC7 d (k+1) (by omega);rw[zZ (x:=exx D x m T) (by omega),zZ (x:=x) (by omega)];cases v with
  |nil=>
   refine⟨fun g=>g.elim,?_⟩
   rintro⟨y,u,e,hy,hu⟩
   cases y with
   |nil=>exact hy.elim
   |cons a y=>simp at e
  |cons a v=>
   show((0≤a∧a<(lvl (exx D x m T) k).o)∧V (suf (exx D x m T) (k+1)) v)↔_;rw[zGs h hE hT (by omega),ih v];constructor
   ·rintro⟨g,y,u,rfl,hy,hu⟩
    exact⟨a::y,u,rfl,⟨g,hy⟩,hu⟩
   ·rintro⟨y,u,e,hy,hu⟩
    cases y with
    |nil=>exact hy.elim
    |cons b y=>
     simp only[Kz,Ql.injEq]at e;obtain⟨rfl,rfl⟩:=e;exact⟨hy.1,y,u,rfl,hy.2,hu⟩
theorem zH8:∀(d k:Nat),k+d=x.zA.length→ ∀y u r,V (suf x k) y→Row m.Prime D u→Row m.Prime D r→mul (suf (exx D x m T) k) (y++u) (zeros d++r)=y++adv m.Prime D u r
 |0,k,hk,y,u,r,hy,hu,hr=>by have hp:=hE.m.p.pos;rw[vW (x:=x) (k:=k) (by omega)]at hy;obtain rfl:y=[]:=hy;rw[zAZ h hE hT D k (by omega) (by omega)];exact qW (by omega) D u r hu hr
 |d+1,k,hk,y,u,r,hy,hu,hr=>by
  have hl:=uH h hE hT;rw[zZ (x:=x) (by omega)]at hy;cases y with
  |nil=>exact hy.elim
  |cons a y=>
   obtain⟨⟨a0,a1⟩,hy⟩:=hy;change a<at0 x.zA k at a1;rw[zZ (x:=exx D x m T) (by omega)];show mul _ (a::(y++u)) (0::(zeros d++r))=_;rw[yK,zGs h hE hT (by omega),if_neg (by omega)];show(a+0)::mul _ (y++u) (zeros d++r)=_;rw[zH8 d (k+1) (by omega) y u r hy hu hr,Lp];rfl
theorem zAH{k:Nat}(hk:k≤x.zA.length+D):Pc.Ok (suf (exx D x m T) k):=(zFa h hE hT).okAt (by grind[uH])
theorem zLs{d k:Nat}(hk:k+d=x.zA.length):∀(rs:List Vec)(v:Vec)(y u:Vec),(∀r∈rs,Row m.Prime D r)→V (suf x k) y→Row m.Prime D u→img (mul (suf (exx D x m T) k)) (rs.map fun r=>zeros d++r) v (y++u)=y++img (adv m.Prime D) rs v u
 | [],v,y,u,_,_,_=>by rfl
 |_::_,[],_,_,_,_,_=>rfl
 |c::rs,t::v,y,u,hr,hy,hu=>by
  have hp:=hE.m.p.pos;have hc:=hr c (by simp);have e:∀q u,Row m.Prime D u→iter q (fun w=>mul (suf (exx D x m T) k) w (zeros d++c)) (y++u)=y++iter q (fun w=>adv m.Prime D w c) u:=by
   intro q
   induction q with
   |zero=>intro u _;rfl
   |succ q ih=>
    intro u hu;show iter q _ (mul _ (y++u) (zeros d++c))=_;rw[zH8 h hE hT d k hk y u c hy hu hc,ih _ (zAk (by omega))];rfl
  show img _ (rs.map fun r=>zeros d++r) v (iter t.toNat (fun w=>mul (suf (exx D x m T) k) w (zeros d++c)) (y++u))=_;rw[e _ _ hu,zLs hk rs v y _ (by grind) hy (vB (S:=Row m.Prime D) (fun _ _=>zAk (by omega)) _ hu)];rfl
theorem zUC{k:Nat}(hk:k<x.zA.length):(gl D fun j=>(m.zJ.getD k []).getD j [])=m.zJ.getD k []:=by
 have _:=h;have _:=hT;have hl:=(hE.m.mat k hk).1;apply Kd
 grind
def sgG(D:Nat)(x:SPr)(m:zC)(T:Mx)(k:Nat)(y:Vec):Vec:=img (mul (suf (exx D x m T) (k+1))) (eC1 x T k) y (zeros (suf (exx D x m T) (k+1)).length)
theorem zDE{k:Nat}:(eC1 x T k).length=x.zA.length-1-k:=by have _:=h;have _:=hE;have _:=hT;grind[eC1]
theorem zPK{k:Nat}(hk:k<x.zA.length):∀c∈eC1 x T k,V (suf (exx D x m T) (k+1)) c:=by intro c hc;have ok:=zAH h hE hT (k:=k) (by omega);rw[zZ (by grind[uH])]at ok;exact ok.2.2.2.1 c (by grind[zGt])
theorem zBN{k:Nat}(hk:k≤x.zA.length):zeros (suf (exx D x m T) k).length=zeros (x.zA.length-k)++zeros D:=by grind[yY,uH,zeros,Jb]
theorem zPL{k:Nat}(hk:k<x.zA.length){y:Vec}:V (suf (exx D x m T) (k+1)) (sgG D x m T k y):=by have ok:=zAH h hE hT (k:=k+1) (by omega);exact tZ (xE ok) _ _ (zPK h hE hT hk) (wD ok)
theorem zLt{k:Nat}(hk:k<x.zA.length){y u:Vec}(hy:V (suf x (k+1)) y)(hu:Row m.Prime D u):
  sig (suf (exx D x m T) (k+1)) (lvl (exx D x m T) k) (y++u)=(sgG D x m T k y).take (x.zA.length-(k+1))++adv m.Prime D ((sgG D x m T k y).drop (x.zA.length-(k+1))) (tL m.Prime D u (m.zJ.getD k [])):=by
 have hp:=hE.m.p.pos;have hA:=hE.m.mat k hk;have c9:=sO h (by omega) hy;unfold sig;rw[zGt h hE hT hk,zMQ _ _ _ _ _ (by grind[zDE])];show img _ (eC2 x m D k) u (sgG D x m T k y)=_;obtain⟨y1,u1,e,eO,bK⟩:=(zC7 h hE hT (x.zA.length-(k+1)) (k+1) (by omega) _).1 (zPL h hE hT hk (y:=y));have pQ:=sO h (by omega) eO;rw[e,eC2,zUC h hE hT hk,show x.zA.length-1-k=x.zA.length-(k+1)from by omega,zLs h hE hT (by omega) _ _ _ _ (fun r hr=>?_) eO bK,zFc (by omega) _ _ _ (by rw[hA.1,hu.1]) (fun i hi=>(hu.2 i (by rw[←hu.1];exact hi)).1) bK,zPJ hA.1,K7 pQ,L5 pQ];obtain⟨j,hj,rfl⟩:=K1.1 hr;have pq:=hA.1;have:=hA.2 j (by omega)
 grind
theorem zFd{k:Nat}(hk:k<x.zA.length){u:Vec}(hu:Row m.Prime D u):
  sig (suf (exx D x m T) (k+1)) (lvl (exx D x m T) k) (zeros (x.zA.length-(k+1))++u)=zeros (x.zA.length-(k+1))++tL m.Prime D u (m.zJ.getD k []):=by
 have hp:=hE.m.p.pos;have ok:=h.okAt (k:=k+1) (by omega);have hz:=wD ok;rw[yY]at hz;have e:sgG D x m T k (zeros (x.zA.length-(k+1)))=zeros (x.zA.length-(k+1))++zeros D:=by grind[sgG,kD,zBN]
 rw[zLt h hE hT hk hz hu,e,K7 (zU _),L5 (zU _),zLr (jF (by omega))]
theorem zGw{k:Nat}(hk:k<x.zA.length):∀(q:Nat){u:Vec},Row m.Prime D u→
  iter q (sig (suf (exx D x m T) (k+1)) (lvl (exx D x m T) k)) (zeros (x.zA.length-(k+1))++u)=zeros (x.zA.length-(k+1))++iter q (fun u=>tL m.Prime D u (m.zJ.getD k [])) u
 |0,u,_=>rfl
 |q+1,u,hu=>by have hp:=hE.m.p.pos;show iter q _ (sig _ _ _)=_;rw[zFd h hE hT hk hu,zGw hk q (jF (by omega))];rfl
end
end Go.Pl

namespace Go.Pl
open Go Go.Ab Go.Wk Go.Pc
theorem zEs{p:Int}{D:Nat}{A:Mx}(hA:Mat p D A)(hp:2≤p){r:List Int}(hr:Row p D r):∀q,iter q (fun u=>tL p D u A) r=tL p D r (pw (PM p D) (idM D) A q)
 |0=>(zKf hr).symm
 |q+1=>by
  have hm:Mat p D (pw (PM p D) (idM D) A q):=vB (S:=Mat p D) (fun _ hB=>zAW (by omega) hB.1) q (jZ hp);unfold pw at*
  rw[wN,wN,zEs hA hp hr q];exact zMR hm.1
theorem zPM{p:Int}{D:Nat}(hp:0<p){r:List Int}:iter p.toNat (fun w=>adv p D w r) (zeros D)=zeros D:=by
 rw[zGu hp _ _ (sW hp)];rw[show zeros D=mkv D fun _=>0 from jE D];refine xI fun j hj=>?_
 rw[wF hj,Qm (by omega),Ky,Int.mul_emod_right]
theorem zLu{p:Int}{D:Nat}{A:Mx}:tL p D (zeros D) A=zeros D:=by
 rw[show zeros D=mkv D fun _=>0 from jE D];refine xI fun j hj=>?_
 rw[zCg (g:=fun _=>0) fun l hl=>by rw[wF hl,Ja3],zIn,Int.zero_emod]
theorem zND{p:Int}{D q:Nat}{A:Mx}(hq:q<D)(hA:Mat p D A):tL p D (wI D q) A=A.getD q []:=by
 have hr:=hA.2 q hq
 conv=>rhs;rw[sK hr.1]
 refine xI fun j hj=>?_
 rw[jG,zGe (k:=q) hq (fun i hi gj=>by rw[wF hi,if_neg gj,Ja3]),wF hq,if_pos rfl,Ul,kG (hr.2 j hj)]
theorem uZ{p:Int}{D q:Nat}(hp:2≤p):Row p D (wI D q):=by rw[jG];exact⟨yW _ _,by grind[wF]⟩
theorem zKg{N D q:Nat}(hq:q<D):wI (N+D) (N+q)=zeros N++wI D q:=by
 rw[jX (by omega),jX hq,←J9]
 grind[zeros,Jb]
def aM(m:zC)(D k:Nat)(v:Vec):Mx:=img (PM m.Prime D) (m.zJ.drop k) v (idM D)
theorem zPN{p:Int}{D:Nat}(hp:2≤p):Mon (Mat p D) (PM p D) (idM D):=
 ⟨fun ha _=>zAW (by omega) ha.1,jZ (by omega),fun ha hb _=>zJJ ha.1 hb.1,fun ha=>zIp ha,fun ha=>zJK ha⟩
section
variable {D:Nat}{x:SPr}{m:zC}{T:Mx} (h:Pres x) (hE:ExB x.zA.length D x m T) (hT:∀i,i<T.length→Row m.Prime D (T.getD i []))
 include h hE hT
theorem zPO{k:Nat}(hk:k<x.zA.length):(eC1 x T k).map (·.take (x.zA.length-(k+1)))=(lvl x k).cs:=by
 have _:=hE;have _:=hT;have gI:=kF h.w hk;apply Kd;intro j
 by_cases g:j<x.zA.length-(k+1)
 ·obtain⟨c,_,_,c3,c4⟩:=zD1 h hk g
  have hl:=sO h (by omega) c3;have e1:((eC1 x T k).map (·.take (x.zA.length-(k+1))))[j]? =ud (((lvl x k).cs.getD j []++T.getD (base x.zA.length k+j) []).take (x.zA.length-(k+1))):=by simp[eC1,gl,show j<x.zA.length-1-k by omega]
  grind
 ·rw[Kh (by simp[eC1,gl];omega),Kh (by omega)]
theorem zXx{k:Nat}{v:Vec}:Mat m.Prime D (aM m D k v):=by
 have _:=h;have _:=hT;have hp:=hE.m.p.pos;refine tZ (fun ha _=>zAW (by omega) ha.1) _ _ (fun c hc=>?_) (jZ (by omega));obtain⟨i,hi,rfl⟩:=K1.1 (Q7 hc);have:=hE.m.mat i (by rw[←hE.m.len];exact hi)
 grind
theorem zKh{k:Nat}(hk:k<x.zA.length):m.zJ.drop k=m.zJ.getD k []::m.zJ.drop (k+1):=by
 have _:=h;have _:=hT;have hl:=hE.m.len
 grind[Kx]
theorem zSy{k:Nat}(hk:k<x.zA.length){b:Int}{y:Vec}:aM m D k (b::y)=PM m.Prime D (pw (PM m.Prime D) (idM D) (m.zJ.getD k []) b.toNat) (aM m D (k+1) y):=by
 have M:=zPN hE.m.p.pos.1 (D:=D);unfold aM;rw[zKh h hE hT hk];refine tW M (hE.m.mat k hk) fun c hc=>?_
 obtain⟨i,hi,rfl⟩:=K1.1 (Q7 hc);have:=hE.m.mat i (by rw[←hE.m.len];exact hi)
 grind
theorem pwM{k q:Nat}(hk:k<x.zA.length):Mat m.Prime D (pw (PM m.Prime D) (idM D) (m.zJ.getD k []) q):=by have _:=h;have _:=hT;have _:=hk;have hp:=hE.m.p.pos;exact vB (S:=Mat m.Prime D) (fun _ hB=>zAW (by omega) hB.1) q (jZ (by omega))
theorem zPP:∀(d k:Nat),k+d=x.zA.length→ ∀r y v,Row m.Prime D r→V (suf x k) y→Row m.Prime D v→mul (suf (exx D x m T) k) (zeros d++r) (y++v)=y++adv m.Prime D (tL m.Prime D r (aM m D k y)) v
 |0,k,hk,r,y,v,hr,hy,hv=>by
  have hp:=hE.m.p.pos;rw[vW (x:=x) (k:=k) (by omega)]at hy;obtain rfl:y=[]:=hy;rw[zAZ h hE hT D k (by omega) (by omega)];have e:aM m D k []=idM D:=by unfold aM;cases m.zJ.drop k<;>rfl
  rw[e,zKf hr];exact qW (by omega) D r v hr hv
 |d+1,k,hk,r,y,v,hr,hy,hv=>by
  have hl:=uH h hE hT;have hp:=hE.m.p.pos;have hA:=hE.m.mat k (by omega);rw[zZ (x:=x) (by omega)]at hy;cases y with
  |nil=>exact hy.elim
  |cons b y=>
   obtain⟨⟨b0,b1⟩,hy⟩:=hy;change b<at0 x.zA k at b1;rw[zZ (x:=exx D x m T) (by omega)];show mul _ (0::(zeros d++r)) (b::(y++v))=_;have e:=zGw h hE hT (k:=k) (by omega) b.toNat hr;rw[show x.zA.length-(k+1)=d from by omega]at e;rw[yK,zGs h hE hT (by omega),if_neg (by omega),e,zEs hA (by omega) hr,zPP d (k+1) (by omega) _ y v (jF (by omega)) hy hv,Ky,zSy h hE hT (by omega),←zMR (pwM h hE hT (by omega)).1];rfl
theorem zKi{k:Nat}(hk:k<x.zA.length)(ih:∀a b,V (suf (exx D x m T) (k+1)) a→V (suf (exx D x m T) (k+1)) b→(mul (suf (exx D x m T) (k+1)) a b).take (x.zA.length-(k+1))=mul (suf x (k+1)) (a.take (x.zA.length-(k+1))) (b.take (x.zA.length-(k+1)))){v:Vec}(hv:V (suf (exx D x m T) (k+1)) v):
  (sig (suf (exx D x m T) (k+1)) (lvl (exx D x m T) k) v).take (x.zA.length-(k+1))=sig (suf x (k+1)) (lvl x k) (v.take (x.zA.length-(k+1))):=by
 have ok:=zAH h hE hT (k:=k+1) (by omega);obtain⟨y,u,rfl,hy,hu⟩:=(zC7 h hE hT (x.zA.length-(k+1)) (k+1) (by omega) _).1 hv;have c9:=sO h (by omega) hy;obtain⟨y1,u1,e,eO,bK⟩:=(zC7 h hE hT (x.zA.length-(k+1)) (k+1) (by omega) _).1 (zPL h hE hT hk (y:=y));have pQ:=sO h (by omega) eO;rw[zLt h hE hT hk hy hu,K7 (by grind),K7 c9];unfold sgG sig;rw[zGv (S:=V (suf (exx D x m T) (k+1))) (n:=mul (suf x (k+1))) (·.take (x.zA.length-(k+1))) (fun a b=>xE ok) ih _ _ _ (zPK h hE hT hk) (wD ok),zPO h hE hT hk,zBN h hE hT (by omega),K7 (zU _),yY]
theorem zIy:∀(d k:Nat),k+d=x.zA.length→ ∀a b,V (suf (exx D x m T) k) a→V (suf (exx D x m T) k) b→(mul (suf (exx D x m T) k) a b).take d=mul (suf x k) (a.take d) (b.take d)
 |0,k,hk,a,b,_,_=>by rw[vW (x:=x) (by omega),Ko];rfl
 |d+1,k,hk,a,b,ha,hb=>by
  have hl:=uH h hE hT;have ih:=zIy d (k+1) (by omega);have hd:d=x.zA.length-(k+1):=by omega
  have ok:=zAH h hE hT (k:=k+1) (by omega);have ok0:=zAH h hE hT (k:=k) (by omega);rw[hd]at ih;have hs:=fun v hv=>zKi h hE hT (k:=k) (by omega) ih (v:=v) hv
  rw[zZ (x:=exx D x m T) (by omega)]at ha hb ok0 ⊢
  rw[zZ (x:=x) (by omega)];cases a with
  |nil=>rfl
  |cons a u=>
  cases b with
  |nil=>rfl
  |cons b v=>
   have er:∀q u,V (suf (exx D x m T) (k+1)) u→(iter q (sig (suf (exx D x m T) (k+1)) (lvl (exx D x m T) k)) u).take d=iter q (sig (suf x (k+1)) (lvl x k)) (u.take d)∧V (suf (exx D x m T) (k+1)) (iter q (sig (suf (exx D x m T) (k+1)) (lvl (exx D x m T) k)) u):=by
    intro q
    induction q with
    |zero=>intro u hu;exact⟨rfl,hu⟩
    |succ q ihq=>
     intro u hu;have:=ihq _ (zCQ ok0 hu);rw[hd,hs u hu]at this;rw[hd];exact this
   obtain⟨hi1,cR⟩:=er b.toNat u ha.2;have hm:=xE ok cR hb.2;rw[yK,Ke,Ke,yK,zGs h hE hT (by omega),show(lvl x k).o=at0 x.zA k from rfl];have e1:=ih _ _ cR hb.2;rw[←hd,hi1]at e1;split
   ·rw[Ke]
    have e2:=ih _ _ ok0.2.1 hm;rw[←hd,e1]at e2;rw[e2]
    congr 2
    have ht:=(h.tl k (by omega)).1;have hw:=zHr ht (by omega);have hwl:(lvl x k).w.length=x.zA.length-(k+1):=sO h (by omega) hw;rw[zTB h hE hT (by omega),K7 (by omega)]
   grind
end
end Go.Pl

namespace Go.Pl
open Go Go.Ab Go.Wk Go.Pc
theorem zNE{p:Int}{d:Nat}(hp:2≤p):∀c∈xU d,Row p d c:=fun c hc=>by obtain⟨k,_,rfl⟩:=Je.1 hc;exact uZ hp
theorem zSz{p:Int}(hp:2≤p){d:Nat}{w:Vec}(hw:Row p d w):sig (tlv p d) ⟨p,zeros d,xU d⟩ w=w:=by
 unfold sig;rw[zFb,zCk (S:=Row p d) (m':=adv p d) (by grind[qW]) (fun _ _ _ _=>zAk (by omega)) (xU d) w _ (zNE hp) (sW (by omega)),zFc (by omega) (xU d) w _ (by rw[hw.1];simp[xU]) (fun i hi=>(hw.2 i (by rw[←hw.1];exact hi)).1) (sW (by omega))]
 conv=>rhs;rw[sK hw.1]
 refine xI fun j hj=>?_
 have fm:(xU d).length=d:=by simp[xU]
 rw[fm,sS,Ky,zGe (k:=j) hj (fun k hk gj=>by rw[zCl hk hj,if_neg (Ne.symm gj),Ja4]),zCl hj hj,if_pos rfl,Hf,kG (hw.2 j hj)]
structure LCn (x e:SPr) (k:Nat):Prop where
 c1:∀j,k+1≤j→j<x.zA.length→pw (mul (suf e (k+1))) (zeros (suf e (k+1)).length) ((lvl e k).cs.getD (j-(k+1)) []) (at0 e.zA j).toNat=sig (suf e (k+1)) (lvl e k) ((e.zV.getD j []).drop (k+1))
 c2:∀i,k+1≤i→i<x.zA.length→ ∀j,i+1≤j→j<x.zA.length→
  mul (suf e (k+1)) ((lvl e k).cs.getD (j-(k+1)) []) ((lvl e k).cs.getD (i-(k+1)) [])=mul (suf e (k+1)) ((lvl e k).cs.getD (i-(k+1)) []) (sig (suf e (k+1)) (lvl e k) (((e.zD.getD i []).getD (j-(i+1)) []).drop (k+1)))
 c3:sig (suf e (k+1)) (lvl e k) (lvl e k).w=(lvl e k).w
 c4:∀j,k+1≤j→j<x.zA.length→mul (suf e (k+1)) (lvl e k).w (iter (lvl e k).o.toNat (sig (suf e (k+1)) (lvl e k)) (wI (e.zA.length-(k+1)) (j-(k+1))))=mul (suf e (k+1)) (wI (e.zA.length-(k+1)) (j-(k+1))) (lvl e k).w
section
variable {D:Nat}{x:SPr}{m:zC}{T:Mx} (h:Pres x) (hE:ExB x.zA.length D x m T) (hT:∀i,i<T.length→Row m.Prime D (T.getD i []))
 include h hE hT
theorem zPQ{k j:Nat}(hk:k<x.zA.length)(hj:x.zA.length≤j)(h2:j<x.zA.length+D):(lvl (exx D x m T) k).cs.getD (j-(k+1)) []=zeros (x.zA.length-(k+1))++(m.zJ.getD k []).getD (j-x.zA.length) []:=by
 rw[zGt h hE hT hk,J3,Ja (by grind[zDE]),zDE h hE hT,eC2]
 grind
theorem zTC{k j:Nat}(hk:k<x.zA.length)(hj:k+1≤j)(h2:j<x.zA.length):(lvl (exx D x m T) k).cs.getD (j-(k+1)) []=(lvl x k).cs.getD (j-(k+1)) []++T.getD (base x.zA.length k+(j-(k+1))) []:=by
 rw[zGt h hE hT hk,J3,Jv (by grind[zDE]),eC1]
 grind
theorem zTD{i j:Nat}(hi:i<j)(hj:j<x.zA.length):Row m.Prime D (T.getD (base x.zA.length i+(j-(i+1))) []):=by have _:=h;have hn:=hE.hn;have hb:=zDC x.zA.length (by omega) i (by omega);exact hT _ (by rw[hE.t];omega)
theorem zLv{i:Nat}(hi:i<x.zA.length):Row m.Prime D (T.getD i []):=by have _:=h;have hn:=hE.hn;have hb:=tX x.zA.length (by omega);exact hT _ (by rw[hE.t];omega)
theorem zLw{k j:Nat}(hj:k≤j)(h2:j<x.zA.length):((exx D x m T).zV.getD j []).drop (k+1)=(x.zV.getD j []).drop (k+1)++T.getD j []:=by have t1:=(h.tl j h2).1.1.1;have _:=hE;have _:=hT;have hP:(exx D x m T).zV.getD j []=exP x.zA.length D x T j:=sC (by omega);rw[hP,exP,if_pos h2,K9 (by omega)]
theorem zUD{k j:Nat}(hk:k<x.zA.length)(hj:x.zA.length≤j)(h2:j<x.zA.length+D):((exx D x m T).zV.getD j []).drop (k+1)=zeros (x.zA.length-(k+1))++zeros D:=by
 have _:=h;have _:=hE;have _:=hT;have hP:(exx D x m T).zV.getD j []=exP x.zA.length D x T j:=sC (by omega);rw[hP,exP,if_neg (by omega),Lo]
 grind[zeros,Jb]
theorem zGx{i:Nat}(hi:i<x.zA.length+D):(exx D x m T).zD.getD i []=exC x.zA.length D x m T i:=by
 have _:=h;have _:=hE;have _:=hT;show(gl (x.zA.length+D) (exC x.zA.length D x m T)).getD i []=_
 grind
theorem zLx{k i j:Nat}(hk:k≤i)(hi:i<j)(hj:j<x.zA.length):(((exx D x m T).zD.getD i []).getD (j-(i+1)) []).drop (k+1)=((x.zD.getD i []).getD (j-(i+1)) []).drop (k+1)++T.getD (base x.zA.length i+(j-(i+1))) []:=by obtain⟨_,t2,t3⟩:=h.tl i (by omega);have t:=(t3 (j-(i+1)) (by omega)).1.1;rw[zGx h hE hT (by omega),exC,if_pos (by omega),sC (by omega),exF,if_pos (by omega),K9 (by omega)]
theorem zUE{k i j:Nat}(hk:k<x.zA.length)(hi:i<x.zA.length)(hj:x.zA.length≤j)(h2:j<x.zA.length+D):(((exx D x m T).zD.getD i []).getD (j-(i+1)) []).drop (k+1)=zeros (x.zA.length-(k+1))++(m.zJ.getD i []).getD (j-x.zA.length) []:=by rw[zGx h hE hT (by omega),exC,if_pos (by omega),sC (by omega),exF,if_neg (by omega),K9 (by simp;omega),Lo,show j-(i+1)-(x.zA.length-1-i)=j-x.zA.length from by omega];rfl
theorem zUF{k i j:Nat}(hk:k<x.zA.length)(hi:x.zA.length≤i)(hj:i<j)(h2:j<x.zA.length+D):(((exx D x m T).zD.getD i []).getD (j-(i+1)) []).drop (k+1)=zeros (x.zA.length-(k+1))++wI D (j-x.zA.length):=by
 rw[zGx h hE hT (by omega),exC,if_neg (by omega),unC,sC (by omega),vL,zGr,←zKg (by omega),jG]
 grind
theorem zS0(hr:zGH x m D){k:Nat}(hk:k<x.zA.length):pw (PM m.Prime D) (idM D) (m.zJ.getD k []) (at0 x.zA k).toNat=aM m D (k+1) (lvl x k).w∧
  ∀i,k<i→i<x.zA.length→PM m.Prime D (m.zJ.getD i []) (m.zJ.getD k [])=PM m.Prime D (m.zJ.getD k []) (aM m D (k+1) ((lvl x k).cs.getD (i-(k+1)) [])):=by
 have R:=zMP h hE.m hr (x.zA.length-k) k (by omega);rw[zZ hk,zKh h hE hT hk]at R;obtain⟨r1,r2,_⟩:=R;refine⟨r1,fun i h1 h2=>?_⟩;have gI:=kF h.w hk;have hl:=hE.m.len;refine r2 (i-(k+1)) _ _ ?_ ?_
 all_goals grind
theorem zv{k:Nat}(hk:k≤x.zA.length):V (suf x k) (zeros (x.zA.length-k)):=by
 have _:=hE;have _:=hT;have:=wD (h.okAt hk)
 grind[yY]
theorem zUG(hr:zGH x m D){k:Nat}(hk:k<x.zA.length)(hc:LCn x (exx D x m T) k):LC (exx D x m T) k:=by
 have hp:=hE.m.p.pos;have hl:=uH h hE hT;have hA:=hE.m.mat k hk;obtain⟨r1,r2⟩:=zS0 h hE hT hr hk;have hz:=zv h hE hT (k:=k+1) (by omega);have hD0:Row m.Prime D (zeros D):=sW (by omega);have hw:=(zSp h hk).2;refine⟨fun j h1 h2=>?_,fun i h1 h2 j h3 h4=>?_,hc.c3,fun j h1 h2=>?_⟩
 ·rw[hl]at h2
  rcases Kb j x.zA.length with g|g
  ·exact hc.c1 j h1 g
  ·have hq:=hA.2 (j-x.zA.length) (by omega)
   rw[zPQ h hE hT hk g h2,zUD h hE hT hk g h2,zFd h hE hT hk hD0,zLu,zAY h hE hT g h2,zBN h hE hT (by omega)];have e:=zLs h hE hT (d:=x.zA.length-(k+1)) (k:=k+1) (by omega) [(m.zJ.getD k []).getD (j-x.zA.length) []] [m.Prime] _ _ (by grind) hz hD0;have e2:iter m.Prime.toNat (fun w=>adv m.Prime D w ((m.zJ.getD k []).getD (j-x.zA.length) [])) (zeros D)=zeros D:=zPM (by omega);unfold pw;refine e.trans ?_;show zeros _++iter m.Prime.toNat (fun w=>adv m.Prime D w ((m.zJ.getD k []).getD (j-x.zA.length) [])) (zeros D)=_;rw[e2]
 ·rw[hl]at h4
  rcases Kb j x.zA.length with g|g
  ·exact hc.c2 i h1 (by omega) j h3 g
  ·have hq:=hA.2 (j-x.zA.length) (by omega)
   rw[zPQ h hE hT hk g h4];rcases Kb i x.zA.length with gi|gi
   ·have hAi:=hE.m.mat i gi
    have am:=hAi.2 (j-x.zA.length) (by omega);have eI:=(jD h hk h1 gi).2.2;have ht:=zTD h hE hT (i:=k) (j:=i) (by omega) gi;rw[zTC h hE hT hk h1 gi,zUE h hE hT hk gi g h4,zFd h hE hT hk am,zPP h hE hT _ (k+1) (by omega) _ _ _ hq eI ht,zH8 h hE hT _ (k+1) (by omega) _ _ _ eI ht (jF (by omega)),zBM]
    congr 2
    rw[←zAV (by rw[hA.1];omega),←zAV (by rw[hAi.1];omega),r2 i (by omega) gi]
   ·have am:=hA.2 (i-x.zA.length) (by omega)
    rw[zPQ h hE hT hk gi (by omega),zUF h hE hT hk gi (by omega) h4,zFd h hE hT hk (uZ (by omega)),zND (by omega) hA,zH8 h hE hT _ (k+1) (by omega) _ _ _ hz hq am,zH8 h hE hT _ (k+1) (by omega) _ _ _ hz am hq,zBM]
 ·rw[hl]at h2 ⊢
  rcases Kb j x.zA.length with g|g
  ·have:=hc.c4 j h1 g
   grind
  ·have ht:=zLv h hE hT hk
   have hu:Row m.Prime D (wI D (j-x.zA.length)):=uZ (by omega);rw[show x.zA.length+D-(k+1)=x.zA.length-(k+1)+D from by omega,show j-(k+1)=x.zA.length-(k+1)+(j-x.zA.length)from by omega,zKg (by omega),zGs h hE hT hk,zGw h hE hT hk _ hu,zTB h hE hT hk,zEs hA (by omega) hu,r1,zPP h hE hT _ (k+1) (by omega) _ _ _ hu hw ht,zH8 h hE hT _ (k+1) (by omega) _ _ _ hw ht (jF (by omega)),zBM]
theorem zUH{k:Nat}(hk:x.zA.length≤k)(h2:k<x.zA.length+D):LC (exx D x m T) k:=by
 have hp:=hE.m.p.pos;have hl:=uH h hE hT;have hs:=zAZ h hE hT (x.zA.length+D-(k+1)) (k+1) (by omega) (by omega);have hL:=zAZ h hE hT (x.zA.length+D-(k+1)+1) k (by omega) (by omega);rw[zZ (by omega),hs,tlv]at hL;have mB:lvl (exx D x m T) k=⟨m.Prime,zeros (x.zA.length+D-(k+1)),xU (x.zA.length+D-(k+1))⟩:=(Ql.inj hL).1
 generalize hd:x.zA.length+D-(k+1)=d at*
 have eF:∀w,Row m.Prime d w→sig (tlv m.Prime d) ⟨m.Prime,zeros d,xU d⟩ w=w:=by grind[zSz]
 have a9:Row m.Prime d (zeros d):=sW (by omega);have aQ:∀j,(xU d).getD j []=if j<d then wI d j else[]:=fun j=>by
  by_cases g:j<d
  ·rw[if_pos g,zFZ g]
  ·rw[if_neg g,J3,Kh (by grind[xU])];rfl
 refine⟨fun j h1 h3=>?_,fun i h1 h3 j h4 h5=>?_,?_,fun j h1 h3=>?_⟩
 ·rw[hl]at h3
  have hP:(exx D x m T).zV.getD j []=exP x.zA.length D x T j:=sC (by omega);rw[hs,mB,zAY h hE hT (by omega) h3,hP,exP,if_neg (by omega),Lo,hd];show pw (mul (tlv m.Prime d)) (zeros (tlv m.Prime d).length) ((xU d).getD (j-(k+1)) []) m.Prime.toNat=sig (tlv m.Prime d) ⟨m.Prime,zeros d,xU d⟩ (zeros d);rw[eF _ a9,aQ,if_pos (by omega),zFb];have e:=zCk (S:=Row m.Prime d) (m':=adv m.Prime d) (fun a b ha hb=>qW (by omega) d a b ha hb) (fun _ _ _ _=>zAk (by omega)) [wI d (j-(k+1))] [m.Prime] (zeros d) (by grind[uZ]) a9;exact e.trans (zPM (by omega))
 ·rw[hl]at h3 h5
  rw[hs,mB,zGx h hE hT h3,exC,if_neg (by omega),unC,sC (by omega),vL,zGr,hd];have e:(mkv d fun q=>if k+1+q=i+1+(j-(i+1))then(1:Int)else 0)=wI d (j-(k+1)):=by
   rw[jG]
   grind
  rw[e,eF _ (uZ (by omega))];show mul (tlv m.Prime d) ((xU d).getD (j-(k+1)) []) ((xU d).getD (i-(k+1)) [])=mul (tlv m.Prime d) ((xU d).getD (i-(k+1)) []) (wI d (j-(k+1)));rw[aQ,aQ,if_pos (by omega),if_pos (by omega),qW (by omega) d _ _ (uZ (by omega)) (uZ (by omega)),qW (by omega) d _ _ (uZ (by omega)) (uZ (by omega)),zBM]
 ·grind
 ·rw[hl]at h3 ⊢
  have hu:Row m.Prime d (wI d (j-(k+1))):=uZ (by omega);rw[hs,mB,hd,zDD (eF _ hu),qW (by omega) d _ _ a9 hu,qW (by omega) d _ _ hu a9,zBM]
theorem zKj:∀(d k:Nat),x.zA.length≤k→k+d=x.zA.length+D→wE (suf (exx D x m T) k)
 |0,k,hk,hd=>by rw[vW (by grind[uH])];simp only[wE]
 |d+1,k,hk,hd=>(zAE (zFa h hE hT) (by rw[uH h hE hT];omega)).2 ⟨zKj d (k+1) (by omega) (by omega),by grind[zUH]⟩
theorem zS1(hr:zGH x m D):wE (suf (exx D x m T) 0)↔ ∀k,k<x.zA.length→LCn x (exx D x m T) k:=by
 have hl:=uH h hE hT;have key:∀(d k:Nat),k+d=x.zA.length→(wE (suf (exx D x m T) k)↔ ∀i,k≤i→i<x.zA.length→LCn x (exx D x m T) i):=by
  intro d
  induction d with
  |zero=>grind[zKj]
  |succ d ih=>
   intro k hk;rw[zAE (zFa h hE hT) (by omega),ih (k+1) (by omega)];constructor
   ·rintro⟨g1,g2⟩ i h1 h2
    rcases Kb k i with g|g
    ·grind
    ·obtain rfl:i=k:=by omega
     exact⟨fun j a b=>g2.c1 j a (by omega),fun i a b j c d=>g2.c2 i a (by omega) j c (by omega),g2.c3,fun j a b=>g2.c4 j a (by omega)⟩
   grind[zUG]
 simp_all
end
end Go.Pl

namespace Go.Pl
open Go Go.Ab Go.Wk Go.Pc
def prE(x:SPr)(k:Nat)(w:Vec):zF:=⟨fv k (w.take (x.zA.length-k)),w.drop (x.zA.length-k)⟩
theorem sD{x:SPr}{k:Nat}{y u:Vec}(hy:y.length=x.zA.length-k):prE x k (y++u)=⟨fv k y,u⟩:=by grind[prE]
theorem zBa{α α' β:Type}{body:α×α'×Int→Option ((α×α'×Int)⊕(α×α'))}{S:β→Prop}(e1:β→α)(e2:β→α')(g:β→β)(n:Int)(hn:0≤n)(hS:∀a,S a→S (g a))
  (h:∀a(i:Nat),S a→(i:Int)<n→body (e1 a,e2 a,(i:Int))=ud (.inl (e1 (g a),e2 (g a),((i+1:Nat):Int))))(he:∀a,S a→body (e1 a,e2 a,n)=ud (.inr (e1 a,e2 a))){a:β}(ha:S a):
  zI body (e1 a,e2 a,0)=ud (e1 (iter n.toNat g a),e2 (iter n.toNat g a)):=by
 have er:∀k,S (iter k g a):=fun k=>vB (S:=S) hS k ha
 exact zR (body:=body) (r:=(e1 (iter n.toNat g a),e2 (iter n.toNat g a))) (fun i=>(e1 (iter i g a),e2 (iter i g a),(i:Int))) n.toNat (by grind[wN]) (by grind)
structure Mv (D n:Nat) (m0 m:zC):Prop where
 pr:m0.Prime=m.Prime
 mv:∀k,k<n→ ∀u,Row m.Prime D u→zTa m0 u (k:Int)=ud (tL m.Prime D u (m.zJ.getD k []))
theorem Mv.self{n D:Nat}{m:zC}(hE:MOk n m D):Mv D n m m:=by
 refine⟨rfl,fun k hk u hu=>?_⟩;have h3:=hE.d3;have h1:=hE.d1;have hA:=hE.mat k hk;have fm:=hu.1;have hl:=hE.len;unfold zTa;have e1:zHE m u (k:Int) ([],0)=ud (.inl (tL m.Prime D u (m.zJ.getD k []),(D:Int))):=by
  unfold zHE;simp only
  rw[ui (by omega),zK,hE.d,zE (by omega) (by omega),bs,Ky];have cP:yB u 0 (D:Int)=ud u:=by
   unfold yB;rw[if_pos (by omega)]
   congr 1
   rw[show((D:Int)).toNat=D from by omega,show(0:Int).toNat=0 from rfl,Qk,Jq (by omega)]
  rw[cP,bs,zY [] (by omega),bs,zCU hE.p (by omega) hu hA,bs,yC (by grind[tL,yW]),bs,bs,Jw]
 have e2:zHE m u (k:Int) (tL m.Prime D u (m.zJ.getD k []),(D:Int))=ud (.inr (tL m.Prime D u (m.zJ.getD k []))):=by
  unfold zHE
  simp_all
 grind[xK]
section
variable {D:Nat}{x:SPr}{m0 m:zC}{T:Mx} (h:Pres x) (hE:ExB x.zA.length D x m T) (hT:∀i,i<T.length→Row m.Prime D (T.getD i []))
def zPR(D:Nat)(x:SPr)(m0 m:zC)(T:Mx)(k:Nat)(g:zP→Int→zF→zF→Option zF):Prop:=
 ∀a b,V (suf (exx D x m T) k) a→V (suf (exx D x m T) k) b→g ⟨x,m0,T⟩ k (prE x k a) (prE x k b)=ud (prE x k (mul (suf (exx D x m T) k) a b))
def zPS(D:Nat)(x:SPr)(m0 m:zC)(T:Mx)(k:Nat)(g:zP→Int→zF→Option zF):Prop:=
 ∀v,V (suf (exx D x m T) (k+1)) v→g ⟨x,m0,T⟩ k (prE x (k+1) v)=ud (prE x (k+1) (sig (suf (exx D x m T) (k+1)) (lvl (exx D x m T) k) v))
 include h hE hT
theorem zMS{k i j:Nat}(hk:k≤i)(hi:i<j)(hj:j<x.zA.length):zIB ⟨x,m0,T⟩ (i:Int) (j:Int)=ud (prE x (k+1) ((((exx D x m T).zD.getD i []).getD (j-(i+1)) []).drop (k+1)))∧V (suf (exx D x m T) (k+1)) ((((exx D x m T).zD.getD i []).getD (j-(i+1)) []).drop (k+1)):=by
 have hn:=hE.hn;have hb:=zDC x.zA.length (by omega) i (by omega);have ht:=hE.t;obtain⟨_,t2,t3⟩:=h.tl i (by omega);have tt:=t3 (j-(i+1)) (by omega);obtain⟨e1,e2⟩:=zBJ (k:=k+1) tt (by omega) (by omega);have hl:=sO h (by omega) e2;have gI:=h.cl;have hr:=zTD h hE hT hi hj;refine⟨?_,?_⟩
 ·rw[zLx h hE hT hk hi hj,sD hl,←e1]
  unfold zIB;dsimp only
  rw[zY [] (by omega),bs,zE (by omega) (by omega),bs,zE (by omega) (by omega),bs,show(j:Int)-(i:Int)-1=((j-(i+1):Nat):Int)from by omega,zY [] (by omega),bs,zGo x.zA.length (by omega) j hj i hi,bs,zY [] (by omega),bs,show j-i-1=j-(i+1)from by omega]
 ·rw[zLx h hE hT hk hi hj]
  exact(zC7 h hE hT (x.zA.length-(k+1)) (k+1) (by omega) _).2 ⟨_,_,rfl,e2,hr⟩
theorem zDF{k j:Nat}(hk:k<j)(hj:j<x.zA.length):zIB ⟨x,m0,T⟩ (k:Int) (j:Int)=ud (prE x (k+1) ((lvl (exx D x m T) k).cs.getD (j-(k+1)) []))∧V (suf (exx D x m T) (k+1)) ((lvl (exx D x m T) k).cs.getD (j-(k+1)) []):=by
 have e:(lvl (exx D x m T) k).cs.getD (j-(k+1)) []=(((exx D x m T).zD.getD k []).getD (j-(k+1)) []).drop (k+1):=by
  have hC:((exx D x m T).zD.getD k []).length=x.zA.length+D-1-k:=by rw[zGx h hE hT (by omega),exC,if_pos (by omega),uP]
  simp only[lvl];rw[J3,Jo,J5 (by omega),J3 (l:=(exx D x m T).zD.getD k []),J5 (by omega)];rfl
 rw[e];exact zMS h hE hT (Jh k) hk hj
theorem zIz{k j:Nat}(hk:k≤j)(hj:j<x.zA.length):zLP ⟨x,m0,T⟩ (j:Int)=ud (prE x (k+1) (((exx D x m T).zV.getD j []).drop (k+1)))∧V (suf (exx D x m T) (k+1)) (((exx D x m T).zV.getD j []).drop (k+1)):=by
 have hn:=hE.hn;have hb:=tX x.zA.length (by omega);have ht:=hE.t;have pE:=h.pl;have t1:=(h.tl j hj).1;obtain⟨e1,e2⟩:=zBJ (k:=k+1) t1 (by omega) (by omega);have hl:=sO h (by omega) e2;have hr:=zLv h hE hT hj;refine⟨?_,?_⟩
 ·rw[zLw h hE hT hk hj,sD hl,←e1]
  grind[zLP,zY]
 ·rw[zLw h hE hT hk hj]
  exact(zC7 h hE hT (x.zA.length-(k+1)) (k+1) (by omega) _).2 ⟨_,_,rfl,e2,hr⟩
theorem zI0{k:Nat}(hk:k≤x.zA.length)(h0:0<x.zA.length):zK3 ⟨x,m0,T⟩=ud (prE x k (zeros (suf (exx D x m T) k).length)):=by
 have hn:=hE.hn;have h3:=hE.m.d3;have hb:=tX x.zA.length (by omega);have ht:=hE.t;have hr:=zLv h hE hT h0;have mc:=hr.1;unfold zK3;dsimp only
 have e0:ixO T 0=ud (T.getD 0 []):=by grind[zY]
 rw[ui (by omega),zK,e0,bs,yN (by omega),bs,yN (by omega),bs,zBN h hE hT hk,sD (zU _),mc,fv]
 grind[zeros,Jb]
theorem zPT{u v:Vec}(hu:Row m.Prime D u)(hv:Row m.Prime D v):f_A m.Prime u 1 v=ud (adv m.Prime D u v):=by
 have _:=h;have _:=hT;have h3:=hE.m.d3;rw[sQ hE.m.p hu hv (by omega) (by omega)]
 congr 1
 exact xI (by simp)
theorem prV{k:Nat}(hk:k≤x.zA.length){w:Vec}(hw:V (suf (exx D x m T) k) w):∃y u,w=y++u∧V (suf x k) y∧Row m.Prime D u∧prE x k w=⟨fv k y,u⟩∧y.length=x.zA.length-k:=by obtain⟨y,u,rfl,hy,hu⟩:=(zC7 h hE hT (x.zA.length-k) k (by omega) _).1 hw;have c9:=sO h hk hy;exact⟨y,u,rfl,hy,hu,sD c9,c9⟩
variable (hM:Mv D x.zA.length m0 m)
 include hM
theorem zKk{k:Nat}(hk:k<x.zA.length){g:zP→Int→zF→zF→Option zF}(hg:zPR D x m0 m T (k+1) g):zPS D x m0 m T k (b_f g):=by
 intro v hv;have hn:=hE.hn;have hp:=hE.m.p.pos;have ok:=zAH h hE hT (k:=k+1) (by omega);have hA:=hE.m.mat k hk;obtain⟨y,u,rfl,hy,hu,ei,c9⟩:=prV h hE hT (k:=k+1) (by omega) hv;obtain⟨_,hyr⟩:=zCS h.os (x.zA.length-(k+1)) (k+1) y (by omega) hy;have gI:=zDE h hE hT (k:=k);have gK:=zPK h hE hT hk;have hcg:∀i,i<x.zA.length-(k+1)→(eC1 x T k).getD i []=(lvl (exx D x m T) k).cs.getD i []:=fun i hi=>by rw[zGt h hE hT hk,J3,J3,Jv (by omega)]
 obtain⟨A,aD⟩:∃A:Nat→Vec,∀i,A i=img (mul (suf (exx D x m T) (k+1))) ((eC1 x T k).take i) (y.take i) (zeros (suf (exx D x m T) (k+1)).length):=⟨_,fun _=>rfl⟩;have hI:∀i,V (suf (exx D x m T) (k+1)) (A i):=fun i=>by rw[aD];exact tZ (xE ok) _ _ (by grind) (wD ok)
 have hA0:A 0=zeros (suf (exx D x m T) (k+1)).length:=by grind[img]
 have hAn:A (x.zA.length-(k+1))=sgG D x m T k y:=by rw[aD,Jq (by omega),Jq (by omega)];rfl
 rw[ei];unfold b_f;dsimp only
 rw[zI0 h hE hT (k:=k+1) (by omega) (by omega),bs,zE (by omega) (by omega),bs,cs];have:=zR (body:=zRr g ⟨x,m0,T⟩ k ⟨fv (k+1) y,u⟩) (r:=((prE x (k+1) (sgG D x m T k y)).x,(prE x (k+1) (sgG D x m T k y)).v))
  (fun i=>((prE x (k+1) (A i)).x,(prE x (k+1) (A i)).v,((k+1+i:Nat):Int))) (x.zA.length-(k+1)) (fun i hi=>by
  have hr:=hyr i hi;obtain⟨c1,c2⟩:=zDF h hE hT (k:=k) (j:=k+1+i) (by omega) (by omega);rw[show k+1+i-(k+1)=i from by omega]at c1 c2;unfold zRr;dsimp only
  rw[ui (by grind[zAu]),zK];rw[zBa (S:=V (suf (exx D x m T) (k+1))) (fun w=>(prE x (k+1) w).x) (fun w=>(prE x (k+1) w).v) (fun w=>mul (suf (exx D x m T) (k+1)) w ((lvl (exx D x m T) k).cs.getD i [])) (at0 y i) hr.1 (by grind[xE]) (fun w q hw hq=>by
   unfold zTb;dsimp only
   rw[fv,zJC (by omega),bs,ui hq,zK,zE (by omega) (by omega),bs,c1,bs,cs,show(zF.mk (prE x (k+1) w).x (prE x (k+1) w).v)=prE x (k+1) w from rfl,hg w _ hw c2,bs,zE (by omega) (by omega),bs,cs]) (fun w hw=>by
   unfold zTb;dsimp only
   rw[fv,zJC (by omega),bs,uh (by omega),zM]) (hI i),bs,zE (by omega) (by omega),bs,cs]
  rw[aD (i+1),zAC _ _ _ _ (by omega) (by omega),hcg i hi,←aD];rfl) (by
  unfold zRr;dsimp only
  rw[uh (by grind[zAu]),zM,hAn])
 rw[hA0,Qy]at this;rw[this,bs,hM.mv k hk _ hu,bs];obtain⟨y1,u1,e,eO,bK,dj,pO⟩:=prV h hE hT (k:=k+1) (by omega) (zPL h hE hT hk (y:=y));rw[zLt h hE hT hk hy hu,dj,e,K7 pO,L5 pO,sD pO];dsimp only
 rw[hM.pr,zPT h hE hT bK (jF (by omega)),bs]
theorem zPU{k:Nat}(hk:k<x.zA.length){g:zP→Int→zF→zF→Option zF}{gi:zP→Int→zF→Option zF}(hg:zPR D x m0 m T (k+1) g)(hi:zPS D x m0 m T k gi):zPR D x m0 m T k (b_d gi g):=by
 have _:=hM;intro a b ha hb;have hn:=hE.hn;have hl:=uH h hE hT;have hp:=(h.os.2 k hk).pos;have ok:=zAH h hE hT (k:=k+1) (by omega);have ok0:=zAH h hE hT (k:=k) (by omega);obtain⟨al,au,rfl,mN,hau,eZ,fc⟩:=prV h hE hT (k:=k) (by omega) ha;obtain⟨bl,bu,rfl,cf,hbu,be,hbll⟩:=prV h hE hT (k:=k) (by omega) hb;rw[eZ,be];rw[zZ (x:=x) hk]at mN cf;rw[zZ (x:=exx D x m T) (by omega)]at ok0 ⊢
 obtain⟨a0,a,rfl⟩:∃a0 a',al=a0::a':=by cases al with|nil=>grind|cons p q=>simp
 obtain⟨b0,b,rfl⟩:∃a0 a',bl=a0::a':=by cases bl with|nil=>grind|cons p q=>simp
 obtain⟨⟨a1,a2⟩,mN⟩:=mN;obtain⟨⟨b1,b2⟩,cf⟩:=cf;change a0<at0 x.zA k at a2;change b0<at0 x.zA k at b2;have dY:=sO h (by omega) mN;have dV:=sO h (by omega) cf;have hA:=(zC7 h hE hT (x.zA.length-(k+1)) (k+1) (by omega) (a++au)).2 ⟨_,_,rfl,mN,hau⟩;have hB:=(zC7 h hE hT (x.zA.length-(k+1)) (k+1) (by omega) (b++bu)).2 ⟨_,_,rfl,cf,hbu⟩;have own:∀u,V (suf x (k+1)) u→f_o (fv (k+1) u)=ud (fv (k+1) u):=by grind[uX,zAu]
 have own':∀(c:Int) u,V (suf x (k+1)) u→f_o (fv k (c::u))=ud (fv k (c::u)):=fun c u hu=>uX (by have:=sO h (by omega) hu;rw[fv,J7,zU,Jl];omega)
 have eF:∀u,V (suf (exx D x m T) (k+1)) u→V (suf (exx D x m T) (k+1)) (sig (suf (exx D x m T) (k+1)) (lvl (exx D x m T) k) u):=by grind[zCQ]
 have er:V (suf (exx D x m T) (k+1)) (iter b0.toNat (sig (suf (exx D x m T) (k+1)) (lvl (exx D x m T) k)) (a++au)):=vB eF _ hA;have ea:(⟨fv (k+1) a,au⟩:zF)=prE x (k+1) (a++au):=(sD dY).symm;have eb:(⟨fv (k+1) b,bu⟩:zF)=prE x (k+1) (b++bu):=(sD dV).symm;unfold b_d;dsimp only
 rw[uh (by omega),zM,own' _ _ mN,bs,own' _ _ cf,bs,zBl,bs,zBl,bs,Jd,zBk,zBk,qN,qN];have e1:zI (zOb gi ⟨x,m0,T⟩ k ⟨fv k (b0::b),bu⟩) (zeros (k+1)++a,au,0)=ud ((prE x (k+1) (iter b0.toNat (sig (suf (exx D x m T) (k+1)) (lvl (exx D x m T) k)) (a++au))).x,(prE x (k+1) (iter b0.toNat (sig (suf (exx D x m T) (k+1)) (lvl (exx D x m T) k)) (a++au))).v):=by
  have:=zBa (body:=zOb gi ⟨x,m0,T⟩ k ⟨fv k (b0::b),bu⟩) (S:=V (suf (exx D x m T) (k+1))) (fun w=>(prE x (k+1) w).x) (fun w=>(prE x (k+1) w).v) (sig (suf (exx D x m T) (k+1)) (lvl (exx D x m T) k)) b0 b1 eF (fun w q hw hq=>by
   unfold zOb;dsimp only
   rw[zBl,bs,ui hq,zK,show(zF.mk (prE x (k+1) w).x (prE x (k+1) w).v)=prE x (k+1) w from rfl,hi w hw,bs,zE (by omega) (by omega),bs,cs]) (fun w hw=>by
   unfold zOb;dsimp only
   rw[zBl,bs,uh (by omega),zM]) hA
  grind
 rw[e1,bs,zE (by omega) (by omega),bs,cs];dsimp only
 rw[show zeros (k+1)++b=fv (k+1) b from rfl,eb,show(zF.mk (prE x (k+1) (iter b0.toNat (sig (suf (exx D x m T) (k+1)) (lvl (exx D x m T) k)) (a++au))).x (prE x (k+1) (iter b0.toNat (sig (suf (exx D x m T) (k+1)) (lvl (exx D x m T) k)) (a++au))).v)=prE x (k+1) (iter b0.toNat (sig (suf (exx D x m T) (k+1)) (lvl (exx D x m T) k)) (a++au))from rfl,hg _ _ er hB,bs,bs,bs,zE (by omega) (by omega),bs,xL hk,bs];have hm:=xE ok er hB;show _=ud (prE x k (mul _ (a0::(a++au)) (b0::(b++bu))));rw[yK,zGs h hE hT hk]
 generalize mul (suf (exx D x m T) (k+1)) (iter b0.toNat (sig (suf (exx D x m T) (k+1)) (lvl (exx D x m T) k)) (a++au)) (b++bu)=r at hm ⊢
 have fin:∀(c:Int) w,V (suf (exx D x m T) (k+1)) w→((f_o (prE x (k+1) w).x).bind fun r22=>(ixO r22 (k:Int)).bind fun _=>ud (zF.mk (r22.set k c) (prE x (k+1) w).v))=ud (prE x k (c::w)):=fun c w hw=>by
  obtain⟨w1,w2,rfl,h1,h2,h3,h4⟩:=prV h hE hT (k:=k+1) (by omega) hw;have e3:prE x k (c::(w1++w2))=⟨fv k (c::w1),w2⟩:=by grind[sD]
  rw[h3,e3];dsimp only
  rw[own _ h1,bs,fv,←qN,zBl,bs,zBk]
 by_cases hge:a0+b0≥at0 x.zA k
 ·obtain⟨p1,p2⟩:=zIz h hE hT (k:=k) (j:=k) (Jh k) hk
  change V (suf (exx D x m T) (k+1)) (lvl (exx D x m T) k).w at p2;rw[ui hge,zK,if_pos hge,bs,zE (by omega) (by omega),bs,bs,p1,bs];have e4:=hg _ _ p2 hm;rw[show(((exx D x m T).zV.getD k []).drop (k+1))=(lvl (exx D x m T) k).w from rfl,e4,bs]
  grind[xE]
 ·rw[uh hge,zM,if_neg hge]
  grind
theorem zCY:∀(d k:Nat),k+d=x.zA.length→(∀q,2*d+1≤q→zPR D x m0 m T k (zLR q))∧(1≤d→ ∀q,2*d≤q→zPS D x m0 m T k (zLQ q))
 |0,k,hk=>by
  refine⟨fun q hq a b ha hb=>?_,fun h=>by omega⟩;have hn:=hE.hn;have hp:=hE.m.p.pos;obtain⟨q,rfl⟩:∃m',q=m'+1:=⟨q-1,by omega⟩;rw[zAZ h hE hT D k (by omega) (by omega)]at ha hb ⊢
  have ha':=(zEI _ _).1 ha;have eC:=(zEI _ _).1 hb;show b_d _ _ ⟨x,m0,T⟩ k _ _=_;unfold b_d;have e:∀w:Vec,prE x k w=⟨zeros k,w⟩:=fun w=>by rw[prE,show x.zA.length-k=0 from by omega,Ko,Qk,fv,Jf]
  rw[e,e,e];dsimp only
  rw[ui (by omega),zK,yN (by omega),bs,hM.pr,zPT h hE hT ha' eC,bs,qW (by omega) D _ _ ha' eC,show x.zA.length=k from by omega];rfl
 |d+1,k,hk=>by
  obtain⟨h1,h2⟩:=zCY d (k+1) (by omega);have hI:∀q,2*(d+1)≤q→zPS D x m0 m T k (zLQ q):=fun q hq=>by obtain⟨q,rfl⟩:∃m',q=m'+1:=⟨q-1,by omega⟩;exact zKk h hE hT hM (by omega) (h1 q (by omega))
  refine⟨fun q hq=>?_,fun _=>hI⟩;obtain⟨q,rfl⟩:∃m',q=m'+1:=⟨q-1,by omega⟩;exact zPU h hE hT hM (by omega) (h1 q (by omega)) (hI q (by omega))
theorem zGy{k:Nat}(hk:k≤x.zA.length):zPR D x m0 m T k f_d:=fun a b ha hb=>
 kP (2*(x.zA.length-k)+1) fun q hq=>(zCY h hE hT hM (x.zA.length-k) k (by omega)).1 q hq a b ha hb
theorem zAl{k:Nat}(hk:k<x.zA.length):zPS D x m0 m T k f_f:=fun v hv=>
 kP (2*(x.zA.length-k)) fun q hq=>(zCY h hE hT hM (x.zA.length-k) k (by omega)).2 (by omega) q hq v hv
end
end Go.Pl

namespace Go.Pl
open Go Go.Ab Go.Wk Go.Pc
structure GR (p:Int) (D:Nat) (Z:Vec→Prop) (L:Mx) (N:Nat) (C:Prop):Prop where
 len:L.length≤N
 row:∀r∈L,Row p D r
 iff:(∀r∈L,Z r)↔C
theorem GR.nil{p:Int}{D N:Nat}{Z:Vec→Prop}:GR p D Z [] N True:=⟨by simp,by simp,by simp⟩
theorem GR.app{p:Int}{D N M:Nat}{Z:Vec→Prop}{L L':Mx}{C C':Prop}(h:GR p D Z L N C)(h':GR p D Z L' M C'):GR p D Z (L++L') (N+M) (C∧C'):=by
 refine⟨by have:=h.len;have:=h'.len;grind,fun r hr=>?_,?_⟩
 ·rcases Jt.1 hr with g|g
  ·exact h.row r g
  ·exact h'.row r g
 ·rw[←h.iff,←h'.iff]
  grind
theorem GR.one{p:Int}{D:Nat}{Z:Vec→Prop}{r:List Int}{C:Prop}(hr:Row p D r)(h:Z r↔C):GR p D Z [r] 1 C:=
 ⟨by simp,by grind,by grind⟩
theorem GR.to{p:Int}{D N M:Nat}{Z:Vec→Prop}{L:Mx}{C C':Prop}(h:GR p D Z L N C)(hN:N≤M)(hc:C↔C'):GR p D Z L M C':=⟨by have:=h.len;omega,h.row,h.iff.trans hc⟩
def c1Q(Q:Nat→Vec→Vec→Prop)(e:SPr)(k j:Nat):Prop:=Q (k+1) (pw (mul (suf e (k+1))) (zeros (suf e (k+1)).length) ((lvl e k).cs.getD (j-(k+1)) []) (at0 e.zA j).toNat) (sig (suf e (k+1)) (lvl e k) ((e.zV.getD j []).drop (k+1)))
def c2Q(Q:Nat→Vec→Vec→Prop)(e:SPr)(k i j:Nat):Prop:=Q (k+1) (mul (suf e (k+1)) ((lvl e k).cs.getD (j-(k+1)) []) ((lvl e k).cs.getD (i-(k+1)) [])) (mul (suf e (k+1)) ((lvl e k).cs.getD (i-(k+1)) []) (sig (suf e (k+1)) (lvl e k) (((e.zD.getD i []).getD (j-(i+1)) []).drop (k+1))))
def c4Q(Q:Nat→Vec→Vec→Prop)(e:SPr)(k j:Nat):Prop:=Q (k+1) (mul (suf e (k+1)) (lvl e k).w (iter (lvl e k).o.toNat (sig (suf e (k+1)) (lvl e k)) (wI (e.zA.length-(k+1)) (j-(k+1))))) (mul (suf e (k+1)) (wI (e.zA.length-(k+1)) (j-(k+1))) (lvl e k).w)
structure LCQ (Q:Nat→Vec→Vec→Prop) (x e:SPr) (k:Nat):Prop where
 c1:∀j,k+1≤j→j<x.zA.length→c1Q Q e k j
 c2:∀i,k+1≤i→i<x.zA.length→ ∀j,i+1≤j→j<x.zA.length→c2Q Q e k i j
 c3:Q (k+1) (sig (suf e (k+1)) (lvl e k) (lvl e k).w) (lvl e k).w
 c4:∀j,k+1≤j→j<x.zA.length→c4Q Q e k j
section
variable {D:Nat}{x:SPr}{m0 m:zC}{T:Mx} (h:Pres x) (hE:ExB x.zA.length D x m T) (hT:∀i,i<T.length→Row m.Prime D (T.getD i []))
 include h hE hT
theorem zGz{k:Nat}(hk:k≤x.zA.length){a b:Vec}(ha:V (suf (exx D x m T) k) a)(hb:V (suf (exx D x m T) k) b):(mul (suf (exx D x m T) k) a b).take (x.zA.length-k)=mul (suf x k) (a.take (x.zA.length-k)) (b.take (x.zA.length-k)):=by grind[zIy]
theorem zI1{k:Nat}(hk:k<x.zA.length){v:Vec}(hv:V (suf (exx D x m T) (k+1)) v):(sig (suf (exx D x m T) (k+1)) (lvl (exx D x m T) k) v).take (x.zA.length-(k+1))=sig (suf x (k+1)) (lvl x k) (v.take (x.zA.length-(k+1))):=
 by grind[zKi,zIy]
theorem zEt{k:Nat}(hk:k<x.zA.length){v:Vec}(hv:V (suf (exx D x m T) (k+1)) v):V (suf (exx D x m T) (k+1)) (sig (suf (exx D x m T) (k+1)) (lvl (exx D x m T) k) v):=by
 have gG:=zAH h hE hT (k:=k) (by omega);rw[zZ (x:=exx D x m T) (by grind[uH])]at gG
 grind[zCQ]
theorem zMT{k:Nat}(hk:k<x.zA.length):∀(q:Nat){v:Vec},V (suf (exx D x m T) (k+1)) v→(iter q (sig (suf (exx D x m T) (k+1)) (lvl (exx D x m T) k)) v).take (x.zA.length-(k+1))=iter q (sig (suf x (k+1)) (lvl x k)) (v.take (x.zA.length-(k+1)))
 |0,_,_=>rfl
 |q+1,v,hv=>by have:=zMT hk q (zEt h hE hT hk hv);rw[zI1 h hE hT hk hv]at this;exact this
theorem zS2{k:Nat}(hk:k≤x.zA.length):(zeros (suf (exx D x m T) k).length).take (x.zA.length-k)=zeros (suf x k).length:=by grind[zBN,zU,yY]
theorem zWG{k:Nat}(hk:k≤x.zA.length){c:Vec}(hc:V (suf (exx D x m T) k) c)(q:Nat):(pw (mul (suf (exx D x m T) k)) (zeros (suf (exx D x m T) k).length) c q).take (x.zA.length-k)=pw (mul (suf x k)) (zeros (suf x k).length) (c.take (x.zA.length-k)) q:=by have ok:=zAH h hE hT (k:=k) (by omega);have:=zGv (S:=V (suf (exx D x m T) k)) (n:=mul (suf x k)) (·.take (x.zA.length-k)) (fun a b=>xE ok) (by grind[zGz]) [c] [(q:Int)] (zeros (suf (exx D x m T) k).length) (by grind) (wD ok);simp only[Jn,U0,img,Jd]at this;rw[zS2 h hE hT hk]at this;exact this
section
variable {k:Nat} (hk:k<x.zA.length)
 include hk
theorem zPV{j:Nat}(h1:k+1≤j)(h2:j<x.zA.length):((lvl (exx D x m T) k).cs.getD (j-(k+1)) []).take (x.zA.length-(k+1))=(lvl x k).cs.getD (j-(k+1)) []:=by rw[zTC h hE hT hk h1 h2,K7 (sO h (by omega) (jD h hk h1 h2).2.2)]
theorem zLy{j:Nat}(h1:k≤j)(h2:j<x.zA.length):(((exx D x m T).zV.getD j []).drop (k+1)).take (x.zA.length-(k+1))=(x.zV.getD j []).drop (k+1):=by
 have t1:=(h.tl j h2).1.1.1
 grind[zLw]
theorem zUI{i j:Nat}(h1:k+1≤i)(h2:i<j)(h3:j<x.zA.length):((((exx D x m T).zD.getD i []).getD (j-(i+1)) []).drop (k+1)).take (x.zA.length-(k+1))=((x.zD.getD i []).getD (j-(i+1)) []).drop (k+1):=by rw[zLx h hE hT (by omega) h2 h3,K7 (sO h (by omega) (zP3 h hk h1 h2 h3).2.2)]
theorem zUJ{j:Nat}(h1:k+1≤j)(h2:j<x.zA.length):wI ((exx D x m T).zA.length-(k+1)) (j-(k+1))=wI (x.zA.length-(k+1)) (j-(k+1))++zeros D:=by
 rw[uH h hE hT,jX (by omega),jX (by omega),J9,Kz]
 grind[zeros,Jb]
end
variable (hM:Mv D x.zA.length m0 m) {Z:Vec→Prop}{Q:Nat→Vec→Vec→Prop} (hZ:∀k,k≤x.zA.length→ ∀a b,V (suf (exx D x m T) k) a→V (suf (exx D x m T) k) b→a.take (x.zA.length-k)=b.take (x.zA.length-k)→(Z (zAv m.Prime D (a.drop (x.zA.length-k)) (-1) (b.drop (x.zA.length-k)))↔Q k a b))
 include hM hZ
theorem zI2{k:Nat}(hk:k≤x.zA.length){a b:Vec}(ha:V (suf (exx D x m T) k) a)(hb:V (suf (exx D x m T) k) b)(e:a.take (x.zA.length-k)=b.take (x.zA.length-k)):∃r,zK4 ⟨x,m0,T⟩ (prE x k a) (prE x k b)=ud r∧Row m.Prime D r∧(Z r↔Q k a b):=by
 have h7:=hE.m.p.pos;have h3:=hE.m.d3;obtain⟨y,u,rfl,hy,hu,ei,c9⟩:=prV h hE hT hk ha;obtain⟨z,v,rfl,hz,hv,di,fM⟩:=prV h hE hT hk hb;have mW:=hZ k hk _ _ ha hb e;rw[L5 c9,L5 fM]at mW;unfold zK4;rw[ei,di];dsimp only
 rw[hM.pr,zE (by omega) (by omega),bs,sQ hE.m.p hu hv (by omega) (by omega),bs,zCW];exact⟨_,rfl,zGm hE.m.p,mW⟩
section
variable {k:Nat} (hk:k<x.zA.length) (hc:LC x k)
 include hk
 include hc
theorem zXy{j:Nat}(h1:k+1≤j)(h2:j<x.zA.length){L0 L:Mx}{N:Nat}{C:Prop}(hL:GR m.Prime D Z L N C)(hN:N≤1000){f:Mx→Option (Mx×Int⊕Mx)}:∃L',((zK3 ⟨x,m0,T⟩).bind fun r2=>
  (zI (zOc ⟨x,m0,T⟩ (k:Int) (L0,(j:Int))) (r2.x,r2.v,0)).bind fun r8=>
  (zLP ⟨x,m0,T⟩ (j:Int)).bind fun r9=>
  (f_f ⟨x,m0,T⟩ (k:Int) r9).bind fun r10=>
  (zK4 ⟨x,m0,T⟩ (zF.mk r8.1 r8.2) r10).bind fun r11=>
  (xM L [r11]).bind f)=f L'∧GR m.Prime D Z L' (N+1) (C∧c1Q Q (exx D x m T) k j):=by
 have ok:=zAH h hE hT (k:=k+1) (by omega);have hn:=hE.hn;have hp:=(h.os.2 j h2).pos;have hz:=wD ok;obtain⟨c1,c2⟩:=zDF h hE hT (k:=k) (j:=j) (by omega) h2;obtain⟨p1,p2⟩:=zIz h hE hT (k:=k) (j:=j) (by omega) h2;have hA:=zGy h hE hT hM (k:=k+1) (by omega);have hI:=zAl h hE hT hM hk;have dB:zI (zOc ⟨x,m0,T⟩ (k:Int) (L0,(j:Int))) ((prE x (k+1) (zeros (suf (exx D x m T) (k+1)).length)).x,(prE x (k+1) (zeros (suf (exx D x m T) (k+1)).length)).v,0)=ud ((prE x (k+1) (pw (mul (suf (exx D x m T) (k+1))) (zeros (suf (exx D x m T) (k+1)).length) ((lvl (exx D x m T) k).cs.getD (j-(k+1)) []) (at0 x.zA j).toNat)).x,(prE x (k+1) (pw (mul (suf (exx D x m T) (k+1))) (zeros (suf (exx D x m T) (k+1)).length) ((lvl (exx D x m T) k).cs.getD (j-(k+1)) []) (at0 x.zA j).toNat)).v):=
  zBa (S:=V (suf (exx D x m T) (k+1))) (fun w=>(prE x (k+1) w).x) (fun w=>(prE x (k+1) w).v) (fun w=>mul (suf (exx D x m T) (k+1)) w ((lvl (exx D x m T) k).cs.getD (j-(k+1)) [])) (at0 x.zA j) (by omega) (by grind[xE]) (fun w q hw hq=>by
   unfold zOc;dsimp only
   rw[xL h2,bs,ui hq,zK,zE (by omega) (by omega),bs,c1,bs,cs,show(zF.mk (prE x (k+1) w).x (prE x (k+1) w).v)=prE x (k+1) w from rfl,hA w _ hw c2,bs,zE (by omega) (by omega),bs,cs]) (fun w hw=>by
   simp_all[zOc,xL]) hz
 have hpw:V (suf (exx D x m T) (k+1)) (pw (mul (suf (exx D x m T) (k+1))) (zeros (suf (exx D x m T) (k+1)).length) ((lvl (exx D x m T) k).cs.getD (j-(k+1)) []) (at0 x.zA j).toNat):=vB (by grind[xE]) _ hz;obtain⟨r,r1,r2,r3⟩:=zI2 h hE hT hM hZ (k:=k+1) (by omega) hpw (zEt h hE hT hk p2) (by rw[zWG h hE hT (by omega) c2,zI1 h hE hT hk p2,zPV h hE hT hk h1 h2,zLy h hE hT hk (by omega) h2];exact hc.c1 j h1 h2)
 have ar:=hL.len;refine⟨L++[r],?_,hL.app (GR.one r2 (r3.trans ?_))⟩
 ·rw[zI0 h hE hT (k:=k+1) (by omega) (by omega),bs,dB,bs,p1,bs,hI _ p2,bs]
  dsimp only
  rw[r1,bs,yC (by simp;omega),bs]
 ·unfold c1Q;rw[zCj h hE hT h2]
theorem zXz{j:Nat}(h1:k+1≤j)(h2:j<x.zA.length){L0 L:Mx}{N:Nat}{C:Prop}(hL:GR m.Prime D Z L N C)(hN:N≤1000):∃L',zI (zOd ⟨x,m0,T⟩ (k:Int) (L0,(j:Int))) (L,((j+1:Nat):Int))=ud L'∧GR m.Prime D Z L' (N+(x.zA.length-(j+1))) (C∧ ∀j2,j+1≤j2→j2<x.zA.length→c2Q Q (exx D x m T) k j j2):=by
 have ok:=zAH h hE hT (k:=k+1) (by omega);have hn:=hE.hn;have hA:=zGy h hE hT hM (k:=k+1) (by omega);have hI:=zAl h hE hT hM hk;refine wS (fun i(s:Mx×Int)=>s.2=((j+1+i:Nat):Int)∧GR m.Prime D Z s.1 (N+i) (C∧ ∀j2,j+1≤j2→j2<j+1+i→c2Q Q (exx D x m T) k j j2)) (x.zA.length-(j+1)) (fun i s hi ⟨hs,hg⟩=>?_) (fun s ⟨hs,hg⟩=>?_) ⟨rfl,hL.to (by omega) (by grind)⟩
 ·left
  obtain⟨L1,s2⟩:=s;dsimp only at hs hg;subst hs;have g2:j+1+i<x.zA.length:=by omega
  obtain⟨a1,a2⟩:=zDF h hE hT (k:=k) (j:=j) (by omega) h2;obtain⟨b1,b2⟩:=zDF h hE hT (k:=k) (j:=j+1+i) (by omega) g2;obtain⟨d1,d2⟩:=zMS h hE hT (k:=k) (i:=j) (j:=j+1+i) (by omega) (by omega) g2;have hs:=zEt h hE hT hk d2;obtain⟨r,r1,r2,r3⟩:=zI2 h hE hT hM hZ (k:=k+1) (by omega) (xE ok b2 a2) (xE ok a2 hs) (by rw[zGz h hE hT (by omega) b2 a2,zGz h hE hT (by omega) a2 hs,zI1 h hE hT hk d2,zPV h hE hT hk h1 h2,zPV h hE hT hk (by omega) g2,zUI h hE hT hk h1 (by omega) g2];exact hc.c2 j h1 h2 (j+1+i) (by omega) g2)
  have ar:=hg.len;refine⟨(L1++[r],((j+1+i+1:Nat):Int)),?_,rfl,(hg.app (GR.one r2 r3)).to (by omega) ?_⟩
  ·unfold zOd
   dsimp only
   rw[ui (by omega),zK,a1,bs,b1,bs,d1,bs,hI _ d2,bs,zE (by omega) (by omega),bs,cs,hA _ _ b2 a2,bs,bs,hA _ _ a2 hs,bs,r1,bs,yC (by simp;omega),bs,zE (by omega) (by omega),bs,cs]
  ·constructor
   ·rintro⟨⟨g1,g3⟩,g4⟩
    refine⟨g1,fun j2 e1 e2=>?_⟩;rcases Kb j2 (j+1+i)with e|e
    ·grind
    ·obtain rfl:j2=j+1+i:=by omega
     exact g4
   ·rintro⟨g1,g3⟩
    exact⟨by grind,g3 (j+1+i) (by omega) (by omega)⟩
 ·obtain⟨L1,s2⟩:=s
  dsimp only at hs hg;subst hs;refine⟨L1,?_,hg.to (Jh _) ?_⟩
  ·unfold zOd
   grind
  grind
theorem zX0:∃L',zI (zRs ⟨x,m0,T⟩ (k:Int)) ([],((k+1:Nat):Int))=ud L'∧GR m.Prime D Z L' 100 (∀j,k+1≤j→j<x.zA.length→c1Q Q (exx D x m T) k j∧ ∀j2,j+1≤j2→j2<x.zA.length→c2Q Q (exx D x m T) k j j2):=by
 have hn:=hE.hn;refine wS (fun i(s:Mx×Int)=>s.2=((k+1+i:Nat):Int)∧GR m.Prime D Z s.1 (7*i) (∀j,k+1≤j→j<k+1+i→c1Q Q (exx D x m T) k j∧ ∀j2,j+1≤j2→j2<x.zA.length→c2Q Q (exx D x m T) k j j2)) (x.zA.length-(k+1)) (fun i s hi ⟨hs,hg⟩=>?_) (fun s ⟨hs,hg⟩=>?_) ⟨rfl,(GR.nil (N:=0)).to (by omega) (by grind)⟩
 ·left
  obtain⟨L1,s2⟩:=s;dsimp only at hs hg;subst hs;have g2:k+1+i<x.zA.length:=by omega
  obtain⟨L2,e2,hg2⟩:=zXy h hE hT hM hZ hk hc (j:=k+1+i) (by omega) g2 (L0:=L1) hg (by omega) (f:=fun v12=>(rng (((k+1+i:Nat):Int)+1)).bind fun v13=>
   (zI (zOd ⟨x,m0,T⟩ (k:Int) (L1,((k+1+i:Nat):Int))) (v12,v13)).bind fun r25=>
   (rng (((k+1+i:Nat):Int)+1)).bind fun v26=>ud (.inl (r25,v26)))
  obtain⟨L3,e3,hg3⟩:=zXz h hE hT hM hZ hk hc (j:=k+1+i) (by omega) g2 (L0:=L1) hg2 (by omega);refine⟨(L3,((k+1+i+1:Nat):Int)),?_,rfl,hg3.to (by omega) ?_⟩
  ·unfold zRs
   dsimp only
   rw[ui (by omega),zK,e2,zE (by omega) (by omega),bs,cs,e3,bs,bs]
  grind
 ·obtain⟨L1,s2⟩:=s
  dsimp only at hs hg;subst hs;refine⟨L1,?_,hg.to (by omega) ?_⟩
  ·unfold zRs
   grind
  grind
theorem zPW{j:Nat}(h1:k+1≤j)(h2:j<x.zA.length):∃r,zK3 ⟨x,m0,T⟩=ud r∧ixO r.x (j:Int)=ud 0∧r.x.set j 1=(prE x (k+1) (wI (x.zA.length-(k+1)) (j-(k+1))++zeros D)).x∧r.v=(prE x (k+1) (wI (x.zA.length-(k+1)) (j-(k+1))++zeros D)).v:=by
 have _:=hM;have _:=hZ;have _:=hc;have hn:=hE.hn;have fm:(wI (x.zA.length-(k+1)) (j-(k+1))).length=x.zA.length-(k+1):=by rw[jG,yW]
 refine⟨_,zI0 h hE hT (k:=k+1) (by omega) (by omega),?_,?_,?_⟩
 ·rw[zBN h hE hT (by omega),sD (zU _)]
  dsimp only
  simp only[fv,zeros,Jb];rw[vC,Js,if_pos (by omega)]
 ·rw[zBN h hE hT (by omega),sD (zU _),sD fm]
  dsimp only
  have e1:fv (k+1) (zeros (x.zA.length-(k+1)))=zeros j++0::zeros (x.zA.length-(k+1)-(j-(k+1)+1)):=by
   simp only[fv,zeros];rw[←K6,Jb,Jb]
   grind
  rw[e1,zBk,fv,jX (by omega),←J9]
  grind[zeros,Jb]
 grind[zBN,sD,zU]
theorem zX1{L:Mx}{N:Nat}{C:Prop}(hL:GR m.Prime D Z L N C)(hN:N≤1000):∃L',zI (zOe ⟨x,m0,T⟩ (k:Int) (prE x (k+1) (((exx D x m T).zV.getD k []).drop (k+1)))) (L,((k+1:Nat):Int))=ud L'∧GR m.Prime D Z L' (N+(x.zA.length-(k+1))) (C∧ ∀j,k+1≤j→j<x.zA.length→c4Q Q (exx D x m T) k j):=by
 have hn:=hE.hn;have hpk:=(h.os.2 k hk).pos;have h7:=hE.m.p.pos;have ok:=zAH h hE hT (k:=k+1) (by omega);have hA:=zGy h hE hT hM (k:=k+1) (by omega);have hI:=zAl h hE hT hM hk;obtain⟨p1,p2⟩:=zIz (m0:=m0) h hE hT (k:=k) (j:=k) (Jh k) hk;change V (suf (exx D x m T) (k+1)) (lvl (exx D x m T) k).w at p2;change∃L',zI (zOe ⟨x,m0,T⟩ (k:Int) (prE x (k+1) (lvl (exx D x m T) k).w)) (L,((k+1:Nat):Int))=ud L'∧_;have htw:(lvl (exx D x m T) k).w.take (x.zA.length-(k+1))=(lvl x k).w:=zLy h hE hT hk (Jh k) hk;have ho:(lvl (exx D x m T) k).o=at0 x.zA k:=zGs h hE hT hk;refine wS (fun i(s:Mx×Int)=>s.2=((k+1+i:Nat):Int)∧GR m.Prime D Z s.1 (N+i) (C∧ ∀j,k+1≤j→j<k+1+i→c4Q Q (exx D x m T) k j)) (x.zA.length-(k+1)) (fun i s hi ⟨hs,hg⟩=>?_) (fun s ⟨hs,hg⟩=>?_) ⟨rfl,hL.to (by omega) (by grind)⟩
 ·left
  obtain⟨L1,s2⟩:=s;dsimp only at hs hg;subst hs;have g2:k+1+i<x.zA.length:=by omega
  obtain⟨r33,z1,z2,z3,z4⟩:=zPW h hE hT hM hZ hk hc (j:=k+1+i) (by omega) g2;have hue:=zUJ h hE hT hk (j:=k+1+i) (by omega) g2;have hux:V (suf x (k+1)) (wI (x.zA.length-(k+1)) (k+1+i-(k+1))):=by
   have:=zCP (h.okAt (k:=k+1) (by omega)) (j:=k+1+i-(k+1)) (by grind[yY])
   grind[yY]
  have fm:=sO h (by omega) hux;have b7:V (suf (exx D x m T) (k+1)) (wI (x.zA.length-(k+1)) (k+1+i-(k+1))++zeros D):=(zC7 h hE hT (x.zA.length-(k+1)) (k+1) (by omega) _).2 ⟨_,_,rfl,hux,sW (by omega)⟩;have er:V (suf (exx D x m T) (k+1)) (iter (at0 x.zA k).toNat (sig (suf (exx D x m T) (k+1)) (lvl (exx D x m T) k)) (wI (x.zA.length-(k+1)) (k+1+i-(k+1))++zeros D)):=vB (fun w hw=>zEt h hE hT hk hw) _ b7;have dB:zI (zRt ⟨x,m0,T⟩ (k:Int)) ((prE x (k+1) (wI (x.zA.length-(k+1)) (k+1+i-(k+1))++zeros D)).x,(prE x (k+1) (wI (x.zA.length-(k+1)) (k+1+i-(k+1))++zeros D)).v,0)=ud ((prE x (k+1) (iter (at0 x.zA k).toNat (sig (suf (exx D x m T) (k+1)) (lvl (exx D x m T) k)) (wI (x.zA.length-(k+1)) (k+1+i-(k+1))++zeros D))).x,(prE x (k+1) (iter (at0 x.zA k).toNat (sig (suf (exx D x m T) (k+1)) (lvl (exx D x m T) k)) (wI (x.zA.length-(k+1)) (k+1+i-(k+1))++zeros D))).v):=
   zBa (S:=V (suf (exx D x m T) (k+1))) (fun w=>(prE x (k+1) w).x) (fun w=>(prE x (k+1) w).v) (sig (suf (exx D x m T) (k+1)) (lvl (exx D x m T) k)) (at0 x.zA k) (by omega) (fun w hw=>zEt h hE hT hk hw) (fun w q hw hq=>by
    unfold zRt;dsimp only
    rw[xL hk,bs,ui hq,zK,show(zF.mk (prE x (k+1) w).x (prE x (k+1) w).v)=prE x (k+1) w from rfl,hI w hw,bs,zE (by omega) (by omega),bs,cs]) (fun w hw=>by
    simp_all[zRt,xL]) b7
  obtain⟨r,r1,r2,r3⟩:=zI2 h hE hT hM hZ (k:=k+1) (by omega) (xE ok p2 er) (xE ok b7 p2) (by rw[zGz h hE hT (by omega) p2 er,zGz h hE hT (by omega) b7 p2,zMT h hE hT hk _ b7,htw,K7 fm];exact hc.c4 (k+1+i) (by omega) g2)
  have ar:=hg.len;refine⟨(L1++[r],((k+1+i+1:Nat):Int)),?_,rfl,(hg.app (GR.one r2 r3)).to (by omega) ?_⟩
  ·unfold zOe
   dsimp only
   rw[ui (by omega),zK,z1,bs,z2,bs,Jd,z3,z4,dB,bs,zE (by omega) (by omega),bs,cs];dsimp only
   have e1:=hA _ _ p2 er;have e2:=hA _ _ b7 p2;rw[show∀w,(zF.mk (prE x (k+1) w).x (prE x (k+1) w).v)=prE x (k+1) w from fun _=>rfl,show∀w,(zF.mk (prE x (k+1) w).x (prE x (k+1) w).v)=prE x (k+1) w from fun _=>rfl,e1,bs,bs,e2,bs,r1,bs,yC (by simp;omega),bs,zE (by omega) (by omega),bs,cs]
  ·have e4:c4Q Q (exx D x m T) k (k+1+i)↔Q (k+1) (mul (suf (exx D x m T) (k+1)) (lvl (exx D x m T) k).w (iter (at0 x.zA k).toNat (sig (suf (exx D x m T) (k+1)) (lvl (exx D x m T) k)) (wI (x.zA.length-(k+1)) (k+1+i-(k+1))++zeros D))) (mul (suf (exx D x m T) (k+1)) (wI (x.zA.length-(k+1)) (k+1+i-(k+1))++zeros D) (lvl (exx D x m T) k).w):=by
    grind[c4Q]
   rw[←e4];constructor
   ·grind
   grind
 ·obtain⟨L1,s2⟩:=s
  dsimp only at hs hg;subst hs;refine⟨L1,?_,hg.to (Jh _) ?_⟩
  ·unfold zOe
   grind
  grind
theorem zUK:∃L,f_h ⟨x,m0,T⟩ (k:Int)=ud L∧GR m.Prime D Z L 120 (LCQ Q x (exx D x m T) k):=by
 have hn:=hE.hn;have hI:=zAl h hE hT hM hk;obtain⟨p1,p2⟩:=zIz h hE hT (k:=k) (j:=k) (Jh k) hk;obtain⟨L1,e1,g1⟩:=zX0 h hE hT hM hZ hk hc;have hs:=zEt h hE hT hk p2;obtain⟨r,r1,r2,r3⟩:=zI2 h hE hT hM hZ (k:=k+1) (by omega) hs p2 (by rw[zI1 h hE hT hk p2,zLy h hE hT hk (Jh k) hk];exact hc.c3)
 obtain⟨L2,e2,g2⟩:=zX1 h hE hT hM hZ hk hc (g1.app (GR.one r2 r3)) (by omega);have ar:=g1.len;refine⟨L2,?_,g2.to (by omega) ?_⟩
 ·unfold f_h
  rw[zE (by omega) (by omega),bs,cs,e1,bs,p1,bs,hI _ p2,bs,r1,bs,yC (by simp;omega),bs,bs,e2,bs]
 ·constructor
  ·rintro⟨⟨a1,a2⟩,a3⟩
   exact⟨by grind,by grind,a2,a3⟩
  ·intro a
   exact⟨⟨fun j b1 b2=>⟨a.c1 j b1 b2,fun j2 b3 b4=>a.c2 j b1 b2 j2 b3 b4⟩,a.c3⟩,a.c4⟩
end
theorem zUL(hx:wE (suf x 0)):∃L,zTc ⟨x,m0,T⟩=ud L∧GR m.Prime D Z L 1000 (∀k,k<x.zA.length→LCQ Q x (exx D x m T) k):=by
 have hn:=hE.hn;have h3:=hE.m.d3;have hlc:∀k,k<x.zA.length→LC x k:=fun k hk=>((zAE h.w hk).1 (zCf hx k)).2
 obtain⟨L,e,g⟩:=wS (body:=zK5 ⟨x,m0,T⟩) (Q:=fun L=>GR m.Prime D Z L 1000 (∀k,k<x.zA.length→LCQ Q x (exx D x m T) k)) (fun i(s:Mx×Int)=>s.2=(i:Int)∧GR m.Prime D Z s.1 (120*i) (∀k,k<i→LCQ Q x (exx D x m T) k)) x.zA.length (fun i s hi ⟨hs,hg⟩=>by
  left;obtain⟨L1,s2⟩:=s;dsimp only at hs hg;subst hs;obtain⟨L2,e2,g2⟩:=zUK h hE hT hM hZ hi (hlc i hi);have l1:=hg.len;have l2:=g2.len;refine⟨(L1++L2,((i+1:Nat):Int)),?_,rfl,(hg.app g2).to (by omega) ?_⟩
  ·unfold zK5
   dsimp only
   rw[xH hi,zK,e2,bs,yC (by omega),bs,zE (by omega) (by omega),bs,cs]
  grind) (fun s ⟨hs,hg⟩=>by
  obtain⟨L1,s2⟩:=s;dsimp only at hs hg;subst hs;refine⟨L1,?_,hg.to (by omega) Iff.rfl⟩
  simp_all[zK5]) (s:=([],0)) ⟨rfl,(GR.nil (N:=0)).to (by omega) (by simp)⟩
 grind[zTc]
end
section
variable {D:Nat}{x:SPr}{m0 m:zC}{T:Mx} (h:Pres x) (hE:ExB x.zA.length D x m T) (hT:∀i,i<T.length→Row m.Prime D (T.getD i [])) (hM:Mv D x.zA.length m0 m)
 include h hE hT hM
theorem zMU(hx:wE (suf x 0))(hr:zGH x m D):IsB (zRu x m0 T) (wE (suf (exx D x m T) 0)):=by
 have hn:=hE.hn;have h3:=hE.m.d3;have hp:=hE.m.p.pos;obtain⟨L,e,g⟩:=zUL h hE hT hM (Z:=fun r=>r=zeros D) (Q:=fun _ a b=>a=b) (fun k hk a b ha hb e=>by
  obtain⟨y,u,rfl,hy,hu,_,c9⟩:=prV h hE hT hk ha;obtain⟨z,v,rfl,hz,hv,_,fM⟩:=prV h hE hT hk hb;rw[K7 c9,K7 fM]at e;subst e;rw[L5 c9,L5 c9,List.append_cancel_left_eq,←zN6 (p:=m.Prime) hu hv];constructor
  ·grind[sS]
  ·intro g
   rw[sK (zGl (p:=m.Prime) (r:=u) (s:=v) (k:=-1)),show zeros D=mkv D fun _=>0 from jE D]
   grind[xI]) hx
 have ar:=g.len;unfold zRu;rw[e,bs];refine(tU (body:=zK6 L) L.length (fun i=> ∀j,j<(L.getD i []).length→at0 (L.getD i []) j=0) rfl (fun i hi _=>?_) ?_).iff ?_
 ·have eT:=g.row (L.getD i []) (by grind)
  unfold zK6;rw[xH hi,zK,zY [] hi,bs];rcases zH3 (v:=L.getD i []) (by rw[eT.1];omega)with⟨z1,z2⟩|⟨z1,z2⟩
  ·left
   rw[z1,bs,Jc,zM,zE (by omega) (by omega),bs,cs]
   grind
  grind
 ·simp_all[zK6]
 ·rw[zS1 h hE hT hr,show(∀k,k<x.zA.length→LCn x (exx D x m T) k)↔(∀k,k<x.zA.length→LCQ (fun _ a b=>a=b) x (exx D x m T) k)from⟨fun a k hk=>⟨(a k hk).c1,(a k hk).c2,(a k hk).c3,(a k hk).c4⟩,fun a k hk=>⟨(a k hk).c1,(a k hk).c2,(a k hk).c3,(a k hk).c4⟩⟩,←g.iff]
  constructor
  ·intro a r hr
   obtain⟨i,hi,rfl⟩:=K1.1 hr;have a:=a i hi;rw[J3,J5 hi]at a;have eT:=g.row _ hr;rw[sK eT.1,show zeros D=mkv D fun _=>0 from jE D]
   grind
  grind[Jx,sS]
end
end Go.Pl

namespace Go.Pl
open Go Go.Ab Go.Wk Go.Pc
theorem zCq{x:SPr}(h:Pres x):∃s:Nat,f_S x=ud (s:Int)∧(s=0↔wE (suf x 0)):=by
 have h6:=h.os.1;unfold f_S;obtain⟨r,r1,r2⟩:=wS (body:=zKs x) (Q:=fun r=> ∃s:Nat,r=(s:Int)∧wE (suf x s)∧(s=0∨ ¬wE (suf x (s-1)))) (fun i s=>i≤x.zA.length∧s=((x.zA.length-i:Nat):Int)∧wE (suf x (x.zA.length-i))) x.zA.length (fun i s hi ⟨_,hs,gK⟩=>by
   subst hs;have hk:x.zA.length-i-1<x.zA.length:=by omega
   have e9:x.zA.length-(i+1)=x.zA.length-i-1:=by omega
   rw[e9];have e8:i+1≤x.zA.length:=by omega
   rw[show x.zA.length-i=x.zA.length-i-1+1 from by omega]at gK ⊢
   have cH:=zGc h hk gK;have cI:=zAE h.w hk
   generalize x.zA.length-i-1=k at*
   unfold zKs;rw[ui (by omega),zK,zE (by omega) (by omega),bs,show(((k+1:Nat):Int)-1)=(k:Int)from by omega];rcases cH with⟨g1,g2⟩|⟨r,g1,g2,g3⟩
   ·simp_all
   grind) (fun s ⟨_,hs,gK⟩=>by
   rw[Ka]at hs gK;subst hs;unfold zKs
   grind) (s:=(x.zA.length:Int)) ⟨by omega,by rfl,by rw[Jc3,vW (by omega)];simp only[wE]⟩
 obtain⟨s,rfl,gK,hs⟩:=r2;rw[r1,bs];refine⟨s,rfl,by grind,fun g=>?_⟩
 grind[zCf]
section
variable {x:SPr}{m:zC}{T:Mx}{D:Nat} (hx:zED x) (hm:MOk x.zA.length m D) (hT:T.length≤1048576)
 include hx hm hT
def kC(x:SPr)(m:zC)(D:Nat)(T:Mx):Prop:=T.length=base x.zA.length x.zA.length∧zWF m D T
theorem jH:IsB (zRq x m T) (kC x m D T):=by
 have h6:=hx.n6;unfold zRq;rw[zLn rfl h6,bs]
 by_cases g:T.length=base x.zA.length x.zA.length
 ·rw[show((T.length:Int)==((base x.zA.length x.zA.length:Nat):Int))=uf from by simp[g],zK]
  exact(IsB.b (zIx hm (by omega) hT)).iff ⟨fun q=>⟨g,q⟩,fun q=>q.2⟩
 ·rw[show((T.length:Int)==((base x.zA.length x.zA.length:Nat):Int))=ug from by simp;omega,zM]
  exact .inr ⟨rfl,fun q=>g q.1⟩
theorem zBO:IsB (zRv x m T) (kC x m D T):=by
 have h6:=hx.n6;have h3:=hm.d3;unfold zRv;rw[zLo rfl h6,bs]
 by_cases g:T.length=base x.zA.length x.zA.length
 ·rw[show((T.length:Int)==((base x.zA.length x.zA.length:Nat):Int))=uf from by simp[g],zK]
  exact(IsB.b (zH4 hm.p hm.d (by omega) hT)).iff ⟨fun q=>⟨g,q⟩,fun q=>q.2⟩
 ·rw[show((T.length:Int)==((base x.zA.length x.zA.length:Nat):Int))=ug from by simp;omega,zM]
  exact .inr ⟨rfl,fun q=>g q.1⟩
 omit hT in
theorem zS3(ht:kC x m D T):zGp x.zA.length D x m T:=by
  have h3:=hm.d3;exact zGp.of hx hm ht.1 (zIw fun i hi=>by have:=(ht.2 i hi).1;omega)
 omit hT in
theorem zS4(ht:kC x m D T):IsB (zTd x m T) (wE (suf (exx D x m T) 0)):=by
  have hE:=zS3 hx hm ht;unfold zTd;rw[zKb hE,bs];obtain⟨s,s1,s2⟩:=zCq ((zFa hx.toPres (hE.b hm) ht.2).p (by rw[uH hx.toPres (hE.b hm) ht.2];have:=hm.d3;have:=hE.hn;omega))
  grind[IsB.of_bool]
end
end Go.Pl

namespace Go.Pl
open Go Go.Ab Go.Wk Go.Pc
def Coc(x:SPr)(m:zC)(D:Nat)(T:Mx):Prop:=kC x m D T∧wE (suf (exx D x m T) 0)
section
variable {x:SPr}{m:zC}{A B:Mx}{L:List Mx}
theorem zNF(hx:zBg x)(hm:zFS m)(hA:A.length≤1048576)(hB:B.length≤1048576)(hl:L.length≤1000)(hL:∀t,t∈L↔t=A∨t=B):∃c:Int,zR1 x m A B=ud c∧f_O x m L=ud c∧(c=0→zAU x∧ ∃D,MOk x.zA.length m D∧zGH x m D∧Coc x m D A∧Coc x m D B):=by
 have pR:x.zA.length≤1048576:=hx.1;have bj:=S3.len hm;unfold zR1 f_O;rcases(zC5 (m:=m) pR).both (zC6 (m:=m) pR bj)with⟨s1,i1,hM⟩|⟨s1,i1,hM⟩
 ·obtain⟨hc,D,hD,hr⟩:=hM
  have gx:∀i,i<L.length→L.getD i []=A∨L.getD i []=B:=by grind[Jx]
  have gg:∀i,i<L.length→(L.getD i []).length≤1048576:=by grind
  have fc:∀(P:Mx→Prop),(∀i,0≤i→i<L.length→P (L.getD i []))↔P A∧P B:=fun P=>by
   constructor
   ·intro g
    have key:∀t,t∈L→P t:=fun t ht=>by
     obtain⟨i,hi,rfl⟩:=K1.1 ht
     grind
    grind
   grind
  have fK:∀i:Nat,i<L.length→((i:Nat):Int)<(L.length:Int):=fun i hi=>by omega
  simp only[s1,i1,bs,Jc,zM];have c1:=chk (body:=zR2 x m L) L.length 0 (Kn _) (fun i=>kC x m D (L.getD i [])) (fun _=>(1:Int)) (fun i _ hi _=>by
   unfold zR2;rw[xH hi,zK,zY [] hi,bs];rcases zBO hc.2.2 hD (gg i hi)with⟨z1,z2⟩|⟨z1,z2⟩
   ·left
    rw[z1,bs,Jc,zM,zE (by omega) (by omega),bs,cs]
    grind
   grind) (by
   unfold zR2;simp)
  rw[show((0:Nat):Int)=0 from rfl]at c1;have hAB:(∀i,0≤i→i<L.length→kC x m D (L.getD i []))↔_:=fc (kC x m D);rcases c1 with⟨c1,c2⟩|⟨i,_,hi,c1,c2⟩
  ·obtain⟨tA,tB⟩:=hAB.1 c2
   rw[c1,bs];simp only
   rcases jH hc.2.2 hD hA with⟨z1,_⟩|⟨_,z2⟩
   rcases jH hc.2.2 hD hB with⟨y1,_⟩|⟨_,y2⟩
   ·simp only[z1,y1,bs,Jc,zM]
    have c3:=chk (body:=zR3 x m L) L.length 0 (Kn _) (fun i=>wE (suf (exx D x m (L.getD i [])) 0)) (fun _=>(5:Int)) (fun i _ hi _=>by
     unfold zR3;rw[xH hi,zK,zY [] hi,bs];rcases zS4 hc.2.2 hD (c2 i (Kn _) hi)with⟨z1,z2⟩|⟨z1,z2⟩
     ·left
      rw[z1,bs,Jc,zM,zE (by omega) (by omega),bs,cs]
      grind
     grind) (by
     unfold zR3;simp)
    rw[show((0:Nat):Int)=0 from rfl]at c3;have hCC:(∀i,0≤i→i<L.length→wE (suf (exx D x m (L.getD i [])) 0))↔_:=fc (fun t=>wE (suf (exx D x m t) 0));have sA:=zMU hc.1 ((zS3 hc.2.2 hD tA).b hD) tA.2 (Mv.self hD) hc.2.1 hr;have sB:=zMU hc.1 ((zS3 hc.2.2 hD tB).b hD) tB.2 (Mv.self hD) hc.2.1 hr;rcases c3 with⟨c3,c4⟩|⟨i,_,hi,c3,c4⟩
    ·obtain⟨kA,kB⟩:=hCC.1 c4
     rcases sA with⟨z3,_⟩|⟨_,z3⟩
     rcases sB with⟨y3,_⟩|⟨_,y3⟩
     ·rw[z3,bs,Jc,zM,y3,bs,Jc,zM,c3,bs]
      exact⟨0,rfl,rfl,fun _=>⟨hc,D,hD,hr,⟨tA,kA⟩,tB,kB⟩⟩
     all_goals grind
    ·rw[c3,bs]
     refine⟨5,?_,rfl,by simp⟩;rcases sA with⟨z3,z4⟩|⟨z3,z4⟩
     ·rcases sB with⟨y3,y4⟩|⟨y3,y4⟩
      all_goals grind
     grind
   all_goals grind
  ·rw[c1,bs]
   refine⟨1,?_,rfl,by simp⟩;rcases jH hc.2.2 hD hA with⟨z1,z2⟩|⟨z1,z2⟩
   ·rcases jH hc.2.2 hD hB with⟨y1,y2⟩|⟨y1,y2⟩
    all_goals grind
   grind
 simp_all
end
end Go.Pl

namespace Go.Pl
open Go Go.Ab Go.Wk Go.Pc
theorem zPX{x:SPr}(h:Pres x)(_:x.zA.length≤6):(wL x).length=base x.zA.length x.zA.length:=by grind[zNC,base]
section
variable {x:SPr}{m:zC}{D:Nat} (hx:zED x) (hD:MOk x.zA.length m D)
 include hx hD
theorem zLz{T:Mx}(ht:kC x m D T):Row m.Prime (base x.zA.length x.zA.length*D) T.flatten∧f_V T=ud T.flatten∧f_q T=ud T.flatten:=by
 have h6:=hx.n6;have h3:=hD.d3;have hb:=tX x.zA.length (by omega);have hrD:base x.zA.length x.zA.length*D≤21*3:=Gu hb.2.1 h3;have h:=zJZ (p:=m.Prime) (D:=D) (xs:=T) fun r hr=>by
  obtain⟨i,hi,rfl⟩:=K1.1 hr;have:=ht.2 i hi
  grind
 rw[ht.1]at h;have hl:=ht.1;exact⟨h,zH5 (by omega) (by rw[h.1];omega),zAj (by omega) (by rw[h.1];omega)⟩
end
end Go.Pl

namespace Go.Pl
open Go Go.Ab Go.Wk Go.Pc
end Go.Pl

namespace Go.Pl
open Go Go.Ab Go.Wk Go.Pc
end Go.Pl

namespace Go.Pl
open Go Go.Ab Go.Wk Go.Pc
end Go.Pl

namespace Go.Pl
open Go Go.Ab Go.Wk Go.Pc
end Go.Pl

namespace Go.Pl
open Go Go.Ab Go.Wk Go.Pc
end Go.Pl

namespace Go.Pl
open Go Go.Ab Go.Wk Go.Pc
end Go.Pl

namespace Go.Pl
open Go Go.Ab Go.Wk Go.Pc
end Go.Pl

namespace Go.Pl
open Go Go.Ab Go.Wk Go.Pc
end Go.Pl

namespace Go.Pl
open Go Go.Ab Go.Wk Go.Pc
end Go.Pl

namespace Go.Pl
open Go Go.Ab Go.Wk Go.Pc
end Go.Pl

namespace Go.Pl
open Go Go.Ab Go.Wk Go.Pc
end Go.Pl

namespace Go.Pl
open Go Go.Ab Go.Wk Go.Pc
end Go.Pl

namespace Go.Pl
open Go Go.Ab Go.Wk Go.Pc
end Go.Pl

namespace Go.Pl
open Go Go.Ab Go.Wk Go.Pc
end Go.Pl

namespace Go.Pl
open Go Go.Ab Go.Wk Go.Pc
end Go.Pl

namespace Go.Pl
open Go Go.Ab Go.Wk Go.Pc
end Go.Pl

namespace Go.Pl
open Go Go.Ab Go.Wk Go.Pc
end Go.Pl

namespace Go.Pl
open Go Go.Ab Go.Wk Go.Pc
end Go.Pl

namespace Go.Pl
open Go Go.Ab Go.Wk Go.Pc
end Go.Pl

namespace Go.Pl
open Go Go.Ab Go.Wk Go.Pc
end Go.Pl

namespace Go.Pl
open Go Go.Ab Go.Wk Go.Pc
end Go.Pl

namespace Go.Pl
open Go Go.Ab Go.Wk Go.Pc
end Go.Pl

namespace Go.Pl
open Go Go.Ab Go.Wk Go.Pc
end Go.Pl

namespace Go.Pl
open Go Go.Ab Go.Wk Go.Pc
end Go.Pl

namespace Go.Pl
open Go Go.Ab Go.Wk Go.Pc
end Go.Pl

namespace Go.Pl
open Go Go.Ab Go.Wk Go.Pc
end Go.Pl

namespace Go.Pl
open Go Go.Ab Go.Wk Go.Pc
end Go.Pl

namespace Go.Pl
open Go Go.Ab Go.Wk Go.Pc
end Go.Pl

namespace Go.Pl
open Go Go.Ab Go.Wk Go.Pc
end Go.Pl

namespace Go.Pl
open Go Go.Ab Go.Wk Go.Pc
end Go.Pl

namespace Go.Pl
open Go Go.Ab Go.Wk Go.Pc
end Go.Pl

namespace Go.Pl
open Go Go.Ab Go.Wk Go.Pc
end Go.Pl

namespace Go.Pl
open Go Go.Ab Go.Wk Go.Pc
end Go.Pl

namespace Go.Pl
open Go Go.Ab Go.Wk Go.Pc
end Go.Pl

namespace Go.Pl
open Go Go.Ab Go.Wk Go.Pc
end Go.Pl

namespace Go.Pl
open Go Go.Ab Go.Wk Go.Pc
end Go.Pl

namespace Go.Pl
open Go Go.Ab Go.Wk Go.Pc
end Go.Pl

namespace Go.Pl
open Go Go.Ab Go.Wk Go.Pc
end Go.Pl

namespace Go.Pl
open Go Go.Ab Go.Wk Go.Pc
end Go.Pl

namespace Go.Pl
open Go Go.Ab Go.Wk Go.Pc
end Go.Pl

namespace Go.Pl
open Go Go.Ab Go.Wk Go.Pc
end Go.Pl

namespace Go.Pl
open Go Go.Ab Go.Wk Go.Pc
end Go.Pl

namespace Go.Pl
open Go Go.Ab Go.Wk Go.Pc
end Go.Pl

namespace Go.Pl
open Go Go.Ab Go.Wk Go.Pc
end Go.Pl

namespace Go.Pl
open Go Go.Ab Go.Wk Go.Pc
end Go.Pl

namespace Go.Pl
open Go Go.Ab Go.Wk Go.Pc
end Go.Pl

namespace Go.Pl
open Go Go.Ab Go.Wk Go.Pc
theorem zWH{D k:Nat}(hk:k<D)(hD:D≤1000000):zKo (D:Int) (k:Int)=ud (vL D k):=jK hk hD
end Go.Pl

namespace Go.Pl
open Go Go.Ab Go.Wk Go.Pc
theorem fv0(v:Vec):fv 0 v=v:=by simp[zeros]
section
variable {x:SPr} (h:Pres x) (hc:wE (suf x 0))
 include h hc
theorem g0:Grp (V (suf x 0)) (mul (suf x 0)) (zeros (suf x 0).length):=zBI h (by omega) hc
theorem ok0:Pc.Ok (suf x 0):=by have _:=hc;exact h.okAt (by omega)
theorem zCr{v:Vec}(hv:V (suf x 0) v):v.length=x.zA.length:=by
 have _:=hc;have:=zAu h (k:=0) (by omega) hv
 rwa [fv0]at this
theorem zWI{a b:Vec}(ha:V (suf x 0) a)(hb:V (suf x 0) b):zI8 x a b=ud (mul (suf x 0) a b):=by have:=zC2 h (k:=0) (by omega) hc ha hb;simpa only[fv0]using this
theorem tv0{a b:Vec}(ha:V (suf x 0) a)(hb:V (suf x 0) b):f_b x a b=ud (mul (suf x 0) a b):=by have:=zD4 h (k:=0) (by omega) hc ha hb;simpa only[fv0]using this
theorem zUM{c:Vec}(eI:V (suf x 0) c){e:Int}(e0:0≤e)(e1:e≤1000):f_E x c e=ud (pw (mul (suf x 0)) (zeros (suf x 0).length) c e.toNat):=by have:=zGb h (k:=0) (by omega) hc eI e0 e1;simpa only[fv0]using this
theorem zWJ{a b:Vec}(ha:V (suf x 0) a)(hb:V (suf x 0) b):∃w,V (suf x 0) w∧mul (suf x 0) (mul (suf x 0) b a) w=mul (suf x 0) a b∧zRB x a b=ud w:=by
 have ok:=ok0 h hc;have G:=g0 h hc;obtain⟨i,i1,i2,i3⟩:=zEF h (k:=0) (by omega) hc ha;obtain⟨c,c1,c2,c3⟩:=kR h (k:=0) (by omega) hc ha hb;simp only[fv0]at i3 c3;refine⟨mul (suf x 0) i c,xE ok i1 c1,?_,?_⟩
 ·rw[G.assoc hb ha (xE ok i1 c1),←G.assoc ha i1 c1,i2,G.onel c1,c2]
 ·unfold zRB
  rw[i3,bs,c3,bs,zWI h hc i1 c1,bs]
theorem zKl{a b:Vec}(ha:V (suf x 0) a)(hb:V (suf x 0) b):f_R x a b=ud (mul (suf x 0) a b):=by have _:=hc;have:=zD2 h (k:=0) (by omega) a b ha hb;unfold f_R;rw[show f_a x 0 a b=ud (mul (suf x 0) a b)from by simpa[zeros]using this,bs]
theorem zTE{c:Vec}(eI:V (suf x 0) c){e:Int}(e0:0≤e)(e1:e≤1000):f_K x 0 c e=ud (pw (mul (suf x 0)) (zeros (suf x 0).length) c e.toNat):=by
 have h6:=h.os.1;have ok:=ok0 h hc;have G:=g0 h hc;have hA:∀a b,V (suf x 0) a→V (suf x 0) b→f_a x 0 a b=ud (mul (suf x 0) a b):=fun a b ha hb=>by have:=zD2 h (k:=0) (by omega) a b ha hb;simpa[zeros]using this
 have pwV:∀a,V (suf x 0) (pw (mul (suf x 0)) (zeros (suf x 0).length) c a):=fun a=>wU G.toMon eI a
 unfold f_K;rw[yN (by omega),bs,zJE h (k:=0) (by omega),fv0];obtain⟨r,r1,r2⟩:=uO (body:=zNN x 0) (Q:=fun r=>r=pw (mul (suf x 0)) (zeros (suf x 0).length) c e.toNat)
  (fun s=> ∃(m a q:Nat),s=((m:Int),pw (mul (suf x 0)) (zeros (suf x 0).length) c a,pw (mul (suf x 0)) (zeros (suf x 0).length) c q)∧a+q*m=e.toNat∧m≤1000) (fun s=>s.1.toNat) (fun s hs=>by
   obtain⟨m,a,q,rfl,he,hm⟩:=hs;unfold zNN;simp only
   by_cases hm0:m=0
   ·right
    subst hm0;rw[show decide (((0:Nat):Int)> 0)=ug from rfl,zM];refine⟨_,rfl,?_⟩;rw[←he,Nat.mul_zero];rfl
   ·left
    have hr:uK (m:Int) 2=ud ((m%2:Nat):Int):=by unfold uK;rw[if_neg (by decide),Li (by omega)];rfl
    have hq:tD (m:Int) 2=ud ((m/2:Nat):Int):=by unfold tD;rw[if_neg (by decide),Int.tdiv_eq_ediv_of_nonneg (by omega)];rw[zE (by omega) (by omega)];rfl
    have pC:mul (suf x 0) (pw (mul (suf x 0)) (zeros (suf x 0).length) c q) (pw (mul (suf x 0)) (zeros (suf x 0).length) c q)=pw (mul (suf x 0)) (zeros (suf x 0).length) c (q+q):=(zAt G.toMon eI q q).symm;rw[ui (by omega),zK,hr,bs];rcases Nat.mod_two_eq_zero_or_one m with h2|h2
    ·rw[h2,show((((0:Nat):Int))==1)=ug from rfl,zM,hA _ _ (pwV q) (pwV q),bs,hq,bs,pC]
     refine⟨_,rfl,⟨m/2,a,q+q,rfl,?_,by omega⟩,by simp only;omega⟩;rw[←he];have:m=m/2+m/2:=by omega
     have e3:(q+q)*(m/2)=q*m:=by rw[H5,←Qc,←this]
     omega
    ·rw[h2,show((((1:Nat):Int))==1)=uf from rfl,zK,hA _ _ (pwV a) (pwV q),bs,hA _ _ (pwV q) (pwV q),bs,hq,bs,pC,←zAt G.toMon eI a q]
     refine⟨_,rfl,⟨m/2,a+q,q+q,rfl,?_,by omega⟩,by simp only;omega⟩;rw[←he];have:m=m/2+m/2+1:=by omega
     have e3:(q+q)*(m/2)+q=q*m:=by
      have e4:q*m=q*(m/2+m/2+1):=by rw[←this]
      rw[e4,Qc,Qc,Gt,H5]
     omega) 1000000 (e,(zeros (suf x 0).length),c) (by simp only;omega) ⟨e.toNat,0,1,by rw[zIk G.toMon eI,show((e.toNat:Nat):Int)=e from by omega];rfl,by omega,by omega⟩
 rw[r1,bs,r2]
theorem zTF{c:Vec}(eI:V (suf x 0) c){e:Int}(e0:0≤e)(e1:e≤1000):f_P x c e=ud (pw (mul (suf x 0)) (zeros (suf x 0).length) c e.toNat):=by unfold f_P;rw[uh (by omega),zM,zTE h hc eI e0 e1,bs]
theorem zWK{c:Vec}(eI:V (suf x 0) c){e:Int}(e0:0<e)(e1:e≤1000):∃u,V (suf x 0) u∧mul (suf x 0) c u=(zeros (suf x 0).length)∧f_P x c (-e)=ud (pw (mul (suf x 0)) (zeros (suf x 0).length) u e.toNat):=by obtain⟨u,u1,u2,u3⟩:=zKc h hc eI;refine⟨u,u1,u2,?_⟩;unfold f_P;rw[ui (by omega),zK,u3,bs,zE (by omega) (by omega),bs,show(0:Int)- -e=e from by omega,zTE h hc u1 (by omega) e1,bs]
theorem zUN{a b:Vec}(ha:V (suf x 0) a)(hb:V (suf x 0) b):∃w,V (suf x 0) w∧mul (suf x 0) (mul (suf x 0) b a) w=mul (suf x 0) a b∧zR6 x a b=ud w:=by
 have ok:=ok0 h hc;have G:=g0 h hc;have hba:=xE ok hb ha;have cV:=xE ok ha hb;obtain⟨i,i1,i2,i3⟩:=zKc h hc hba;refine⟨mul (suf x 0) i (mul (suf x 0) a b),xE ok i1 cV,?_,?_⟩
 ·rw[←G.assoc hba i1 cV,i2,G.onel cV]
 ·unfold zR6
  rw[zKl h hc hb ha,bs,i3,bs,zKl h hc ha hb,bs,zKl h hc i1 cV,bs]
theorem zGJ:Fil (V (suf x 0)) (mul (suf x 0)) (zeros (suf x 0).length) x.zA.length (fun d=>at0 x.zA d) (fun v d=>at0 v d):=by
 have F:=fil (ok0 h hc) hc;have hl:(suf x 0).length=x.zA.length:=by rw[yY];omega
 have ho:∀d,d<x.zA.length→od (suf x 0) d=at0 x.zA d:=fun d hd=>by unfold od suf;rw[Jo,J5 (by simpa using hd)];simp[lvl]
 exact⟨F.g,fun ha hd=>by have:=F.r ha (by rw[hl];exact hd);rwa [ho _ hd]at this,fun hd=>F.e0 (by rw[hl];exact hd),fun ha hb hh=>F.ex ha hb fun d hd=>hh d (by rw[←hl];exact hd),
  fun ha hb hd hz=>by have:=F.ad ha hb (by rw[hl];exact hd) hz;rw[ho _ hd]at this;exact this⟩
end
end Go.Pl

namespace Go.Pl
open Go Go.Ab Go.Wk Go.Pc
def tbl(b:Mx)(k:Nat):Option Vec:=match b.getD k []with
 | []=>ue
 |v::vs=>ud (v::vs)
theorem sX{b:Mx}{k:Nat}{t:Vec}:tbl b k=ud t↔b.getD k []=t∧t≠[]:=by
 unfold tbl;cases b.getD k []with
 |nil=>simp
 |cons v vs=>simp;intro h;rw[←h];simp
theorem uI{b:Mx}{k:Nat}:tbl b k=ue↔b.getD k []=[]:=by unfold tbl;cases b.getD k []<;>simp
theorem zI3{b:Mx}{d:Nat}{y:Vec}(hd:d<b.length)(hy:y≠[]):tbl (b.set d y)=fun j=>if j=d then ud y else tbl b j:=by
 funext j
 by_cases h:j=d
 ·subst h
  rw[if_pos rfl,sX,J3,Jab hd];exact⟨rfl,hy⟩
 ·rw[if_neg h]
  unfold tbl;rw[J3,Jb4 (fun e=>h e.symm),←J3]
def zBP:Mx→Nat
 | []=>0
 | []::b=>zBP b+1
 |(_::_)::b=>zBP b
theorem zCm:∀b:Mx,zBP b≤b.length
 | []=>Jh _
 | []::b=>by simp only[zBP,Jl];have:=zCm b;omega
 |(_::_)::b=>by simp only[zBP,Jl];have:=zCm b;omega
theorem zG0:∀(b:Mx)(d:Nat)(y:Vec),d<b.length→b.getD d []=[]→y≠[]→zBP (b.set d y)+1=zBP b
 | [],d,y,h,_,_=>by simp at h
 |v::b,0,y,_,h,hy=>by
  simp at h;subst h;cases y with
  |nil=>exact absurd rfl hy
  |cons a y=>simp[zBP]
 |v::b,d+1,y,h,h1,hy=>by have ih:=zG0 b d y (by simpa using h) (by simpa using h1) hy;cases v<;>simp only[Kk,zBP]<;>omega
theorem zBb{v:List Int}(hl:v.length≤1000):∃d:Nat,d≤v.length∧f_B v=ud (d:Int)∧(∀j,j<d→at0 v j=0)∧(d<v.length→at0 v d≠0):=by
 obtain⟨r,r1,r2⟩:=wS (body:=zR9 v) (Q:=fun r=>match r with
   |.inl ()=> ∀j,j<v.length→at0 v j=0
   |.inr e=> ∃d:Nat,e=(d:Int)∧d<v.length∧(∀j,j<d→at0 v j=0)∧at0 v d≠0)
  (fun i s=>s=(i:Int)∧ ∀j,j<i→at0 v j=0) v.length (fun i s hi hs=>by
   obtain⟨rfl,hz⟩:=hs;unfold zR9;rw[xH hi,zK,zY 0 hi,bs]
   by_cases h0:at0 v i=0
   ·left
    have c8:v.getD i 0=0:=h0;rw[c8,show((0:Int) != 0)=ug from rfl,zM,zE (by omega) (by omega),bs,cs];refine⟨_,rfl,rfl,fun j hj=>?_⟩
    by_cases e:j=i
    ·rw[e];exact h0
    ·exact hz j (by omega)
   ·right
    have c8:(v.getD i 0 != 0)=uf:=by simpa using h0
    rw[c8,zK];exact⟨_,rfl,i,rfl,hi,hz,h0⟩) (fun s hs=>by
   obtain⟨rfl,hz⟩:=hs;unfold zR9;rw[tK,zM];exact⟨_,rfl,hz⟩) (s:=0) ⟨rfl,fun j hj=>by omega⟩
 unfold f_B;rw[r1,bs];cases r with
 |inl u=>exact⟨v.length,Jh _,rfl,r2,fun h=>absurd h (Jb3 _)⟩
 |inr e=>
  obtain⟨d,rfl,h1,h2,h3⟩:=r2;exact⟨d,by omega,rfl,h2,fun _=>h3⟩
section
variable {x:SPr} (h:Pres x) (hc:wE (suf x 0)) {b:Mx} (hb:b.length=x.zA.length) (hT:Tab (V (suf x 0)) x.zA.length (fun v d=>at0 v d) (tbl b))
 include h hc hb hT
theorem zNG{y:Vec}(hy:V (suf x 0) y):∃(z:Vec)(d:Nat),zRA ⟨x,b⟩ y=ud (z,⟨x,b⟩)∧Sf (V (suf x 0)) (mul (suf x 0)) (zeros (suf x 0).length) x.zA.length (fun v d=>at0 v d) (tbl b) y z∧
  d≤x.zA.length∧(∀j,j<d→at0 z j=0)∧(d<x.zA.length→at0 z d≠0∧tbl b d=ue):=by
 have h6:=h.os.1;have F:=zGJ h hc;obtain⟨d0,a1,a2,a3,a4⟩:=zBb (v:=y) (by rw[zCr h hc hy];omega);rw[zCr h hc hy]at a1 a4;obtain⟨r,r1,_,d,rfl,r3,r4,r5,r6⟩:=uO (body:=zNc ⟨x,b⟩)
  (Q:=fun r=> ∃(z:Vec)(d:Nat),r=z∧Sf (V (suf x 0)) (mul (suf x 0)) (zeros (suf x 0).length) x.zA.length (fun v d=>at0 v d) (tbl b) y z∧d≤x.zA.length∧(∀j,j<d→at0 z j=0)∧(d<x.zA.length→at0 z d≠0∧tbl b d=ue))
  (fun s=> ∃(z:Vec)(d:Nat),s=(z,(d:Int))∧Sf (V (suf x 0)) (mul (suf x 0)) (zeros (suf x 0).length) x.zA.length (fun v d=>at0 v d) (tbl b) y z∧d≤x.zA.length∧(∀j,j<d→at0 z j=0)∧(d<x.zA.length→at0 z d≠0))
  (fun s=>x.zA.length-s.2.toNat) (fun s hs=>by
   obtain⟨z,d,rfl,sf,d1,d2,d3⟩:=hs;have hz:=sf.s;have fM:=zCr h hc hz;unfold zNc;simp only
   by_cases hd:d<x.zA.length
   ·rw[show decide ((d:Int)<(z.length:Int))=uf from ui (by omega),zK,zY [] (by omega),bs]
    cases ht:b.getD d []with
    |nil=>
     right;rw[show(!(([]:List Int)).isEmpty)=ug from rfl,zM];exact⟨_,rfl,z,d,rfl,sf,d1,d2,fun _=>⟨d3 hd,uI.2 ht⟩⟩
    |cons t0 ts=>
     left;have ep:tbl b d=ud (t0::ts):=sX.2 ⟨ht,by simp⟩;obtain⟨_,t2,t3,t4⟩:=hT.h ep;have ei:=h.os.2 d hd;have hp7:=ei.pos;have hr:=F.r hz hd;have k1:=F.killl hd t2 t3 t4 hz d2;obtain⟨q1,q2,_⟩:=F.pw1 hd t2 t3 t4 (at0 x.zA d-at0 z d).toNat;obtain⟨s1,s2⟩:=Sf.left F hT hd hz d2 (d3 hd) ep (fun _ g=>g.pw _) q1 q2 k1;have aH:=s1.s;rw[show(!((t0::ts)).isEmpty)=uf from rfl,zK,bs,zY 0 hd,bs,zY 0 (by omega),bs];rw[zE (by show _≤at0 x.zA d-at0 z d;omega) (by show at0 x.zA d-at0 z d≤_;omega),bs];rw[show x.zA.getD d 0-z.getD d 0=at0 x.zA d-at0 z d from rfl,zUM h hc t2 (by omega) (by omega),bs,zWI h hc q1 hz,bs,zY 0 (by rw[zCr h hc aH];exact hd),bs];rw[show Ud (mul (suf x 0) (pw (mul (suf x 0)) (zeros (suf x 0).length) (t0::ts) (at0 x.zA d-at0 z d).toNat) z) d 0=0 from k1,show((0:Int) != 0)=ug from rfl,zM];obtain⟨e0,b1,b2,b3,b4⟩:=zBb (v:=mul (suf x 0) (pw (mul (suf x 0)) (zeros (suf x 0).length) (t0::ts) (at0 x.zA d-at0 z d).toNat) z) (by rw[zCr h hc aH];omega);rw[zCr h hc aH]at b1 b4;rw[b2,bs];refine⟨_,rfl,⟨_,e0,rfl,sf.trans s1,b1,b3,b4⟩,?_⟩;have:d<e0:=by apply Classical.byContradiction;intro gj;have:=s2 e0 (by omega);exact b4 (by omega) this
     simp only[Jd];omega
   ·right
    rw[show decide ((d:Int)<(z.length:Int))=ug from uh (by omega),zM];exact⟨_,rfl,z,d,rfl,sf,d1,d2,fun hh=>absurd hh hd⟩) 1000 (y,(d0:Int)) (by simp only;omega) ⟨y,d0,rfl,Sf.refl hy,a1,a3,a4⟩
 refine⟨r,d,?_,r3,r4,r5,r6⟩;unfold zRA;rw[a2,bs,r1,bs]
end
end Go.Pl

namespace Go.Pl
open Go Go.Ab Go.Wk Go.Pc
theorem zG1{v:Vec}{d:Nat}(h:at0 v d≠0):v≠[]:=by rintro rfl;simp[at0]at h
section
variable {x:SPr} (h:Pres x) (hc:wE (suf x 0)) {b:Mx} (hb:b.length=x.zA.length) (hT:Tab (V (suf x 0)) x.zA.length (fun v d=>at0 v d) (tbl b))
 include h hc hb hT
theorem zNH{y:Vec}(hy:V (suf x 0) y){g:List Int×xC}(hg:g.2=⟨x,b⟩){Q:Mx}(hQ:Q.length≤100000):
  ∃W:Mx,zI (zOj g y) (Q,0)=ud (Q++W)∧W.length≤x.zA.length∧(∀w∈W,V (suf x 0) w∧ ∃k u,tbl b k=ud u∧mul (suf x 0) (mul (suf x 0) y u) w=mul (suf x 0) u y)∧
   ∀k u,tbl b k=ud u→ ∃w,w∈W∧mul (suf x 0) (mul (suf x 0) y u) w=mul (suf x 0) u y:=by
 have h6:=h.os.1;obtain⟨r,r1,W,rfl,r2,r3,r4⟩:=wS (body:=zOj g y)
  (Q:=fun r=> ∃W:Mx,r=Q++W∧W.length≤x.zA.length∧(∀w∈W,V (suf x 0) w∧ ∃k u,tbl b k=ud u∧mul (suf x 0) (mul (suf x 0) y u) w=mul (suf x 0) u y)∧
   ∀k u,tbl b k=ud u→ ∃w,w∈W∧mul (suf x 0) (mul (suf x 0) y u) w=mul (suf x 0) u y)
  (fun i s=> ∃W:Mx,s=(Q++W,(i:Int))∧W.length≤i∧(∀w∈W,V (suf x 0) w∧ ∃k u,tbl b k=ud u∧mul (suf x 0) (mul (suf x 0) y u) w=mul (suf x 0) u y)∧
   ∀k u,k<i→tbl b k=ud u→ ∃w,w∈W∧mul (suf x 0) (mul (suf x 0) y u) w=mul (suf x 0) u y) x.zA.length (fun i s hi hs=>by
   obtain⟨W,rfl,w1,w2,w3⟩:=hs;left;unfold zOj;simp only[hg];rw[show decide ((i:Int)<(b.length:Int))=uf from ui (by omega),zK,zY [] (by omega),bs];cases ht:b.getD i []with
   |nil=>
    rw[show(!(([]:List Int)).isEmpty)=ug from rfl,zM,zE (by omega) (by omega),bs,cs];refine⟨_,rfl,W,rfl,by omega,w2,fun k u hk hu=>?_⟩
    by_cases e:k=i
    ·subst e
     rw[uI.2 ht]at hu;cases hu
    ·exact w3 k u (by omega) hu
   |cons t0 ts=>
    have ep:tbl b i=ud (t0::ts):=sX.2 ⟨ht,by simp⟩;obtain⟨_,t2,_,_⟩:=hT.h ep;obtain⟨w,v1,v2,v3⟩:=zWJ h hc t2 hy;rw[show(!((t0::ts)).isEmpty)=uf from rfl,zK,v3,bs,yC (by simp only[J7,Ji];omega),bs,zE (by omega) (by omega),bs,cs];refine⟨_,rfl,W++[w],by rw[J9],by simp only[J7,Ji];omega,fun a ha=>?_,fun k u hk hu=>?_⟩
    ·rcases Jt.1 ha with ha|ha
     ·exact w2 a ha
     ·simp at ha;subst ha
      exact⟨v1,i,_,ep,v2⟩
    ·by_cases e:k=i
     ·subst e
      rw[ep]at hu;cases hu;exact⟨w,by simp,v2⟩
     ·obtain⟨a,a1,a2⟩:=w3 k u (by omega) hu
      exact⟨a,by simp[a1],a2⟩) (fun s hs=>by
   obtain⟨W,rfl,w1,w2,w3⟩:=hs;unfold zOj;simp only[hg];rw[show decide ((x.zA.length:Int)<(b.length:Int))=ug from uh (by omega),zM];exact⟨_,rfl,W,rfl,w1,w2,fun k u hu=>w3 k u (hT.h hu).1 hu⟩) (s:=(Q,0)) ⟨[],by simp,Jh _,by simp,fun k u hk=>by omega⟩
 exact⟨W,r1,r2,r3,r4⟩
end
section
variable {x:SPr} (h:Pres x) (hc:wE (suf x 0))
 include h hc
abbrev WlB(x:SPr)(L:Vec→Prop)(b:Mx)(Q:Mx):Prop:=Wl (V (suf x 0)) (mul (suf x 0)) (zeros (suf x 0).length) x.zA.length (fun d=>at0 x.zA d) (fun v d=>at0 v d) L (tbl b) Q
theorem zPY{L:Vec→Prop}(hL:∀a,L a→V (suf x 0) a){b:Mx}(hb:b.length=x.zA.length){g:Bool}{q:Vec}{Q:Mx}(hW:WlB x L b (q::Q))(hQ:Q.length≤10000):
  ∃(b':Mx)(g':Bool)(Q':Mx),zOl (x,b,g,q::Q)=ud (.inl (x,b',g',Q'))∧b'.length=x.zA.length∧WlB x L b' Q'∧
   (b'=b∧Q'=Q∨zBP b'+1=zBP b∧Q'.length≤Q.length+x.zA.length+2):=by
 have h6:=h.os.1;have F:=zGJ h hc;have G:=g0 h hc;have hq:=hW.q q (by simp);obtain⟨z,d,s1,sf,s3,s4,s5⟩:=zNG h hc hb hW.t hq.1;have hz:=sf.s;have fM:=zCr h hc hz;obtain⟨d',d1,d2,d3,d4⟩:=zBb (v:=z) (by omega);rw[fM]at d1 d4;have dM:d'=d:=by
  rcases Jc4 d' d with g|g|g
  ·exact absurd (s4 d' g) (d4 (by omega))
  ·exact g
  ·exact absurd (d3 d g) (s5 (by omega)).1
 subst dM;unfold zOl;simp only
 rw[show decide (((q::Q).length:Int)> 0)=uf from ui (by simp only[Jl];omega),zK];rw[show ixO (q::Q) (0:Int)=ud q from rfl,bs,s1,bs];rw[show yB (q::Q) 1 ((q::Q).length:Int)=ud Q from by unfold yB;rw[if_pos ⟨by omega,by simp only[Jl];omega,Int.le_refl _⟩];simp,bs]
 dsimp only
 rw[d2,bs]
 by_cases hd:d'<x.zA.length
 ·obtain⟨n1,n2⟩:=s5 hd
  have ei:=h.os.2 d' hd;have hp7:=ei.pos;have hr:=F.r hz hd;obtain⟨v,v1,v2,v3,v4⟩:=zD9 ei (x:=at0 z d') (by have:=hr.1;omega) (by have:=hr.2;omega);have ci:V (suf x 0) (pw (mul (suf x 0)) (zeros (suf x 0).length) z v.toNat):=wU G.toMon hz _;obtain⟨y,ch⟩:∃y,y=pw (mul (suf x 0)) (zeros (suf x 0).length) z v.toNat:=⟨_,rfl⟩;rw[←ch]at ci;have pP:=F.pwc hd hz s4 v.toNat;rw[←ch]at pP;have eO:at0 y d'=1:=by have:=pP.2;rw[this,show((v.toNat:Nat):Int)=v from by omega,Int.mul_comm];exact v4
  have bz:V (suf x 0) (pw (mul (suf x 0)) (zeros (suf x 0).length) y (at0 x.zA d').toNat):=wU G.toMon ci _;have fN:y≠[]:=zG1 (d:=d') (by rw[eO];decide);rw[show(((d':Nat):Int)==(z.length:Int))=ug from by simp;omega,zM,zY 0 (by omega),bs,zY 0 hd,bs];rw[show z.getD d' 0=at0 z d' from rfl,show x.zA.getD d' 0=at0 x.zA d' from rfl,v1,bs,yC (by simp only[Ji];omega),bs];simp only
  rw[zUM h hc hz v2 (by omega),bs,bs,←ch,zUM h hc ci (by omega) (by omega),bs,yC (by simp only[J7,Ji];omega),bs];obtain⟨W,W1,W2,W3,W4⟩:=zNH h hc hb hW.t ci (g:=(z,⟨x,b⟩)) rfl (Q:=Q++[z]++[pw (mul (suf x 0)) (zeros (suf x 0).length) y (at0 x.zA d').toNat]) (by simp only[J7,Ji];omega);rw[W1,bs,zY [] (by omega),bs,show neO y=ud ()from by cases y with
   |nil=>exact absurd rfl fN
   |cons _ _=>rfl,bs]
  refine⟨_,_,_,rfl,by rw[Lq];exact hb,?_,.inr ⟨zG0 b d' y (by omega) (uI.1 n2) fN,by simp only[J7,Ji];omega⟩⟩;rw[show((d':Nat):Int).toNat=d' from rfl];have gn:=zI3 (b:=b) (d:=d') (y:=y) (by omega) fN;have bx:Gen (V (suf x 0)) (mul (suf x 0)) (zeros (suf x 0).length) L z:=sf.h L hL hW.th hq.2;have cj:Gen (V (suf x 0)) (mul (suf x 0)) (zeros (suf x 0).length) L y:=by rw[ch];exact bx.pw _
  rw[WlB,gn];refine Wl.add F hW hd n2 ci cj pP.1 eO (x:=q) (fun k hk=>?_) (fun a ha=>?_) (fun a ha=>?_) (by simp) (fun k u hu=>?_)
  ·have dZ:∀k t,tbl b k=ud t→(fun j=>if j=d' then ud y else tbl b j) k=ud t:=fun k t hk=>by
    show(if k=d' then ud y else tbl b k)=ud t;rw[if_neg]
    ·exact hk
    ·intro e;rw[e,n2]at hk;cases hk
   have u6:∀a∈Q++[z]++[pw (mul (suf x 0)) (zeros (suf x 0).length) y (at0 x.zA d').toNat]++W,V (suf x 0) a:=fun a ha=>by
    simp only[Jt,List.mem_singleton]at ha;rcases ha with((ha|rfl)|rfl)|ha
    ·exact(hW.q a (by simp[ha])).1
    ·exact hz
    ·exact bz
    ·exact(W3 a ha).1
   have:=sf.g k (Q++[z]++[pw (mul (suf x 0)) (zeros (suf x 0).length) y (at0 x.zA d').toNat]++W) u6 hk (.x (.inr ⟨by simp,fun j hj fZ=>sf.d k hk j hj fZ⟩));exact this.tr dZ fun a ha k hk=>.x (.inr ⟨ha,hk⟩)
  ·simp only[Jt,List.mem_singleton]at ha
   rcases ha with((ha|rfl)|rfl)|ha
   ·exact hW.q a (by simp[ha])
   ·exact⟨hz,bx⟩
   ·exact⟨bz,cj.pw _⟩
   ·obtain⟨a1,k,u,a2,a3⟩:=W3 a ha
    have hu:=(hW.t.h a2).2.1;refine⟨a1,Gen.right G hL (.m cj (hW.th a2)) a1 ?_⟩;rw[a3];exact .m (hW.th a2) cj
  ·simp only[Jp]at ha
   rcases ha with rfl|ha
   ·exact .inl rfl
   ·exact .inr (by simp[ha])
  ·obtain⟨w,w1,w2⟩:=W4 k u hu
   exact⟨w,by simp[w1],.inr w2⟩
 ·rw[show(((d':Nat):Int)==(z.length:Int))=uf from by simp;omega,zK]
  refine⟨b,g,Q,rfl,hb,?_,.inl ⟨rfl,rfl⟩⟩;have aE:z=zeros (suf x 0).length:=F.ex hz G.ein fun j hj=>by have e0:=F.e0 hj;rw[e0,s4 j (by omega)]
  refine Wl.drop hW (x:=q) (fun k hk=>?_) (fun a ha=>by simp[ha]) (fun a ha=>by simpa using ha);exact sf.g k Q (fun a ha=>(hW.q a (by simp[ha])).1) hk (by rw[aE];exact .one)
theorem zPZ{L:Vec→Prop}(hL:∀a,L a→V (suf x 0) a){b:Mx}(hb:b.length=x.zA.length){M:Mx}(hW:WlB x L b M)(hM:M.length≤1000):
  ∃(g:Bool)(b':Mx),f_y ⟨x,b⟩ M=ud (g,⟨x,b'⟩)∧b'.length=x.zA.length∧WlB x L b' []:=by
 have h6:=h.os.1;obtain⟨r,r1,b',g,rfl,r2,r3⟩:=uO (body:=zOl) (Q:=fun r=> ∃(b':Mx)(g:Bool),r=(x,b',g)∧b'.length=x.zA.length∧WlB x L b' [])
  (fun s=> ∃(b:Mx)(g:Bool)(Q:Mx),s=(x,b,g,Q)∧b.length=x.zA.length∧WlB x L b Q∧zBP b*20+Q.length≤2000) (fun s=>zBP s.2.1*20+s.2.2.2.length) (fun s hs=>by
   obtain⟨b,g,Q,rfl,hb,hW,hm⟩:=hs;cases Q with
   |nil=>
    right;unfold zOl;simp only
    rw[show decide ((([]:Mx).length:Int)> 0)=ug from rfl,zM];exact⟨_,rfl,b,g,rfl,hb,hW⟩
   |cons q Q=>
    left;simp only[Jl]at hm;obtain⟨b',g',Q',e1,e2,e3,e4⟩:=zPY h hc hL hb hW (g:=g) (by omega);refine⟨_,e1,⟨b',g',Q',rfl,e2,e3,?_⟩,?_⟩
    ·rcases e4 with⟨rfl,rfl⟩|⟨e4,e5⟩<;>omega
    ·simp only[Jl]
     rcases e4 with⟨rfl,rfl⟩|⟨e4,e5⟩<;>omega) 100000 (x,b,ug,M) (by have:=zCm b;simp only;omega) ⟨b,ug,M,rfl,hb,hW,by have:=zCm b;omega⟩
 refine⟨g,b',?_,r2,r3⟩;unfold f_y zR8;rw[yC (by simp only[Hu];omega),bs,bs,Jw,r1,bs]
end
end Go.Pl

namespace Go.Pl
open Go Go.Ab Go.Wk Go.Pc
def uQ(C:Nat→Option Vec)(k l:Nat):Mx:=(Hy k l).filterMap C
def zDH(C:Nat→Option Vec)(k l:Nat):List Int:=(Hy k l).filterMap fun j=>(C j).map fun _=>(j:Int)
theorem zDI{C:Nat→Option Vec}{k l:Nat}(h:C k=ue):uQ C k (l+1)=uQ C (k+1) l:=by simp only[uQ,He,H7,h]
theorem zDJ{C:Nat→Option Vec}{k l:Nat}{t:Vec}(h:C k=ud t):uQ C k (l+1)=t::uQ C (k+1) l:=by simp only[uQ,He,H7,h]
theorem zH9{C:Nat→Option Vec}{k l:Nat}(h:C k=ue):zDH C k (l+1)=zDH C (k+1) l:=by simp only[zDH,He,H7,h,Ja5]
theorem zHA{C:Nat→Option Vec}{k l:Nat}{t:Vec}(h:C k=ud t):zDH C k (l+1)=(k:Int)::zDH C (k+1) l:=by simp only[zDH,He,H7,h,Hc]
theorem zG2{C D:Nat→Option Vec}:∀(l k:Nat),(∀j,k≤j→C j=D j)→uQ C k l=uQ D k l
 |0,_,_=>rfl
 |l+1,k,h=>by
  have ih:=zG2 l (k+1) fun j hj=>h j (by omega)
  cases hc:C k with
  |none=>rw[zDI hc,zDI (by rw[←h k (Jh _)];exact hc),ih]
  |some t=>rw[zDJ hc,zDJ (by rw[←h k (Jh _)];exact hc),ih]
theorem zI4(C:Nat→Option Vec)(k l:Nat):(uQ C k l).length≤l:=by
 have:=List.length_filterMap_le C (Hy k l)
 rwa [List.length_range']at this
theorem zI5{α:Type}{u:List α}{i:Nat}{a:α}{v:List α}(h:u.drop i=a::v):i<u.length∧ixO u (i:Int)=ud a∧u.drop (i+1)=v:=by
 have hi:i<u.length:=by apply Classical.byContradiction;intro g;rw[H6 (by omega)]at h;cases h
 rw[Kx hi]at h;injection h with h1 h2;exact⟨hi,by rw[vC,J5 hi,h1],h2⟩
theorem zNI{v:List Int}{d:Nat}(hd:d<v.length)(hl:v.length≤1000)(hz:∀j,j<d→at0 v j=0)(h1:at0 v d=1):zTg v=ud (d:Int):=by
 obtain⟨r,r1,rfl⟩:=wS (body:=zK8 v) (Q:=fun r=>r=.inr (d:Int)) (fun i s=>s=(i:Int)) d (fun i s hi hs=>by
  subst hs;left;unfold zK8 zTf;rw[xH (by omega),zK,zY 0 (by omega),bs,bs,show v.getD i 0=0 from hz i hi,show((0:Int) != 0)=ug from rfl,zM,zE (by omega) (by omega),bs,cs];exact⟨_,rfl,rfl⟩) (fun s hs=>by
  subst hs;unfold zK8 zTf;rw[xH hd,zK,zY 0 hd,bs,bs,show v.getD d 0=1 from h1,show((1:Int) != 0)=uf from rfl,zK];exact⟨_,rfl,rfl⟩) (s:=0) rfl
 unfold zTg;rw[r1,bs]
section
variable {x:SPr} (h:Pres x) (hc:wE (suf x 0)) {C:Nat→Option Vec} (hC:∀{j t},C j=ud t→j<x.zA.length∧V (suf x 0) t∧(∀i,i<j→at0 t i=0)∧at0 t j=1)
 include h hc hC
theorem zG3:∀(l k i:Nat)(u:Mx)(acc:List Int),k+l=x.zA.length→u.drop i=uQ C k l→u.length≤1000→acc.length≤i→i≤u.length→zI (zG6 u) (acc,(i:Int))=ud (acc++zDH C k l)
 |0,k,i,u,acc,hk,hu,hl,ha,hi=>by
  have:i=u.length:=by have:=congrArg Uf hu;rw[Us]at this;simp[uQ]at this;omega
  subst this;rw[xK];unfold zG6;simp only
  rw[tK,zM];simp[zDH]
 |l+1,k,i,u,acc,hk,hu,hl,ha,hi=>by
  have h6:=h.os.1;cases ht:C k with
  |none=>
   rw[zDI ht]at hu;rw[zH9 ht];exact zG3 l (k+1) i u acc (by omega) hu hl ha hi
  |some t=>
   rw[zDJ ht]at hu;obtain⟨a1,a2,a3⟩:=zI5 hu;obtain⟨c1,c2,c3,c4⟩:=hC ht;have b9:=zCr h hc c2;rw[xK];unfold zG6;simp only
   rw[xH a1,zK,a2,bs,zNI (by omega) (by omega) c3 c4,bs,yC (by simp only[Ji];omega),bs,zE (by omega) (by omega),bs,cs];have:=zG3 l (k+1) (i+1) u (acc++[(k:Int)]) (by omega) a3 hl (by simp only[J7,Ji];omega) (by omega);unfold zG6 at this;simp only at this ⊢
   rw[this,zHA ht,J9];rfl
theorem zQa(k l:Nat)(hk:k+l=x.zA.length):zTh (uQ C k l)=ud (zDH C k l):=by have h6:=h.os.1;have:=zG3 h hc hC l k 0 (uQ C k l) [] hk rfl (by have:=zI4 C k l;omega) (by simp) (by omega);unfold zTh;rw[show zI (zG6 (uQ C k l)) ([],0)=ud (zDH C k l)from by simpa using this,bs]
theorem zNJ{u:Mx}{s:List Int×Int}{j:Nat}{t y:Vec}(ht:C j=ud t)(hu:ixO u s.2=ud t)(hy:V (suf x 0) y):∃z,(∀{Y:Vec→Prop},Gen (V (suf x 0)) (mul (suf x 0)) (zeros (suf x 0).length) Y t→Gen (V (suf x 0)) (mul (suf x 0)) (zeros (suf x 0).length) Y z)∧
  V (suf x 0) z∧(∀i,i<j→at0 z i=0)∧at0 (mul (suf x 0) y z) j=0∧zI (zOm x u s (j:Int)) y=ud (mul (suf x 0) y z):=by
 have F:=zGJ h hc;have G:=g0 h hc;obtain⟨c1,c2,c3,c4⟩:=hC ht;have hr:=F.r hy c1;have ei:=(h.os.2 j c1).pos;obtain⟨n,hn⟩:∃n:Nat,(at0 y j=0∧n=0)∨(at0 y j≠0∧(n:Int)=at0 x.zA j-at0 y j):=by
  by_cases e:at0 y j=0
  ·exact⟨0,.inl ⟨e,rfl⟩⟩
  ·exact⟨(at0 x.zA j-at0 y j).toNat,.inr ⟨e,by omega⟩⟩
 have hp:=fun a=>F.pw1 c1 c2 c3 c4 a
 have dQ:∀a,at0 (mul (suf x 0) y (pw (mul (suf x 0)) (zeros (suf x 0).length) t a)) j=(at0 y j+a)%at0 x.zA j:=fun a=>by have:=(F.ad hy (hp a).1 c1 (hp a).2.1).2;rw[this,(hp a).2.2,Jc6]
 have hV:∀a,V (suf x 0) (mul (suf x 0) y (pw (mul (suf x 0)) (zeros (suf x 0).length) t a)):=fun a=>G.cl hy (hp a).1
 refine⟨pw (mul (suf x 0)) (zeros (suf x 0).length) t n,fun g=>g.pw n,(hp n).1,(hp n).2.1,?_,?_⟩
 ·rw[dQ]
  rcases hn with⟨e,rfl⟩|⟨e,hn⟩
  ·rw[e];simp
  ·rw[hn,show at0 y j+(at0 x.zA j-at0 y j)=at0 x.zA j from by omega,Qn]
 ·have:=zR (body:=zOm x u s (j:Int)) (r:=mul (suf x 0) y (pw (mul (suf x 0)) (zeros (suf x 0).length) t n)) (fun a=>mul (suf x 0) y (pw (mul (suf x 0)) (zeros (suf x 0).length) t a)) n (fun a ha=>by
   have ag:=hV a;unfold zOm;rw[zY 0 (by rw[zCr h hc ag];exact c1),bs];rw[show Ud (mul (suf x 0) y (pw (mul (suf x 0)) (zeros (suf x 0).length) t a)) j 0=(at0 y j+a)%at0 x.zA j from dQ a];have gj:(at0 y j+a)%at0 x.zA j≠0:=by
    rcases hn with⟨e,rfl⟩|⟨e,hn⟩
    ·omega
    ·rw[Jr (by omega) (by omega)];omega
   rw[show((at0 y j+a)%at0 x.zA j != 0)=uf from by simpa using gj,zK,hu,bs,tv0 h hc ag c2,bs];have e1:mul (suf x 0) (mul (suf x 0) y (pw (mul (suf x 0)) (zeros (suf x 0).length) t a)) t=mul (suf x 0) y (pw (mul (suf x 0)) (zeros (suf x 0).length) t (a+1)):=by
    rw[G.assoc hy (hp a).1 c2]
    congr 1
    rw[pw,pw,wN]
   rw[e1]) (by
   have ag:=hV n;unfold zOm;rw[zY 0 (by rw[zCr h hc ag];exact c1),bs];rw[show Ud (mul (suf x 0) y (pw (mul (suf x 0)) (zeros (suf x 0).length) t n)) j 0=0 from by
    have:=dQ n;rw[show Ud (mul (suf x 0) y (pw (mul (suf x 0)) (zeros (suf x 0).length) t n)) j 0=(at0 y j+n)%at0 x.zA j from this];rcases hn with⟨e,rfl⟩|⟨e,hn⟩
    ·rw[e];simp
    ·rw[hn,show at0 y j+(at0 x.zA j-at0 y j)=at0 x.zA j from by omega,Qn]]
   rw[show((0:Int) != 0)=ug from rfl,zM])
  have e0:mul (suf x 0) y (pw (mul (suf x 0)) (zeros (suf x 0).length) t 0)=y:=G.oner hy;rw[e0]at this;exact this
theorem zDG{L:Vec→Prop}{d:Nat}(hL:∀{j t},C j=ud t→Gen (V (suf x 0)) (mul (suf x 0)) (zeros (suf x 0).length) L t){u:Mx}{P:List Int}:∀(l k i:Nat)(y:Vec),d<k→k+l=x.zA.length→u.drop i=uQ C k l→P.drop i=zDH C k l→i≤P.length→i+l≤1000→
  Rd (V (suf x 0)) (mul (suf x 0)) (zeros (suf x 0).length) x.zA.length (fun v j=>at0 v j) L C d k y→
  ∃r,zI (zLS x u P) (y,(i:Int))=ud r∧Rd (V (suf x 0)) (mul (suf x 0)) (zeros (suf x 0).length) x.zA.length (fun v j=>at0 v j) L C d x.zA.length r
 |0,k,i,y,hdk,hk,hu,hP,hi,cR,hR=>by
  have:i=P.length:=by have:=congrArg Uf hP;rw[Us]at this;simp[zDH]at this;omega
  subst this;have e:k=x.zA.length:=by omega
  rw[e]at hR;refine⟨y,?_,hR⟩;rw[xK];unfold zLS;simp only
  rw[tK,zM]
 |l+1,k,i,y,hdk,hk,hu,hP,hi,cR,hR=>by
  have h6:=h.os.1;have F:=zGJ h hc;cases ht:C k with
  |none=>
   rw[zDI ht]at hu;rw[zH9 ht]at hP;exact zDG hL l (k+1) i y (by omega) (by omega) hu hP hi (by omega) (hR.skip (.inl ht))
  |some t=>
   rw[zDJ ht]at hu;rw[zHA ht]at hP;obtain⟨a1,a2,a3⟩:=zI5 hu;obtain⟨p1,p2,p3⟩:=zI5 hP;obtain⟨z,z1,z2,z3,z4,z5⟩:=zNJ h hc hC (u:=u) (s:=(y,(i:Int))) ht a2 hR.s;have aC:=hR.step F hdk (by omega) z2 (z1 (hL ht)) z3 z4;obtain⟨r,r1,r2⟩:=zDG hL l (k+1) (i+1) _ (by omega) (by omega) a3 p3 (by omega) (by omega) aC;have fE:zLS x u P (y,(i:Int))=ud (.inl (mul (suf x 0) y z,((i+1:Nat):Int))):=by
    unfold zLS;simp only
    rw[xH p1,zK,p2,bs,z5,bs,zE (by omega) (by omega),bs,cs]
   exact⟨r,by rw[xK,fE];exact r1,r2⟩
end
end Go.Pl

namespace Go.Pl
open Go Go.Ab Go.Wk Go.Pc
section
variable {x:SPr} (h:Pres x) (hc:wE (suf x 0))
abbrev zI6(x:SPr)(L:Vec→Prop):Vec→Prop:=Gen (V (suf x 0)) (mul (suf x 0)) (zeros (suf x 0).length) L
abbrev zL0(x:SPr)(L:Vec→Prop)(C:Nat→Option Vec):Prop:=Pc.Can (e:=zeros (suf x 0).length) (V (suf x 0)) x.zA.length (fun v j=>at0 v j) (zI6 x L) C
structure CI (x:SPr) (L:Vec→Prop) (b:Mx) (d:Nat) (C:Nat→Option Vec):Prop where
 c:∀{j t},C j=ud t→j<x.zA.length∧V (suf x 0) t∧(∀i,i<j→at0 t i=0)∧at0 t j=1
 lo:∀{j t},C j=ud t→d≤j
 g:∀{j t},C j=ud t→zI6 x L t
 r:∀{j t},C j=ud t→ ∀i,j<i→i<x.zA.length→(C i).isSome=uf→at0 t i=0
 s:∀j,d≤j→(C j).isSome=(tbl b j).isSome
theorem CI.put{L:Vec→Prop}{b:Mx}{d:Nat}{C:Nat→Option Vec}(hI:CI x L b (d+1) C)(hd:d<x.zA.length){t r:Vec}(ht:tbl b d=ud t)(hr:Rd (V (suf x 0)) (mul (suf x 0)) (zeros (suf x 0).length) x.zA.length (fun v j=>at0 v j) L C d x.zA.length r):
  CI x L b d (fun j=>if j=d then ud r else C j)∧uQ (fun j=>if j=d then ud r else C j) d (x.zA.length-d)=r::uQ C (d+1) (x.zA.length-(d+1)):=by
 have key:∀{j t},(if j=d then ud r else C j)=ud t→(j=d∧t=r)∨(j≠d∧C j=ud t):=fun{j t} hj=>by
  split at hj
  ·rename_i e;cases hj;exact .inl ⟨e,rfl⟩
  ·rename_i e;exact .inr ⟨e,hj⟩
 refine⟨⟨fun hj=>?_,fun hj=>?_,fun hj=>?_,fun hj i hi gW hci=>?_,fun j hj=>?_⟩,?_⟩
 ·rcases key hj with⟨rfl,rfl⟩|⟨_,e⟩
  ·exact⟨hd,hr.s,hr.z,hr.o⟩
  ·exact hI.c e
 ·rcases key hj with⟨rfl,rfl⟩|⟨_,e⟩
  ·exact Jh _
  ·have:=hI.lo e;omega
 ·rcases key hj with⟨rfl,rfl⟩|⟨_,e⟩
  ·exact hr.l
  ·exact hI.g e
 ·replace hci:(if i=d then ud r else C i).isSome=uf:=hci
  rcases key hj with⟨rfl,rfl⟩|⟨_,e⟩
  ·rw[if_neg (by omega)]at hci
   exact hr.r i hi gW hci
  ·have:=hI.lo e
   rw[if_neg (by omega)]at hci;exact hI.r e i hi gW hci
 ·show(if j=d then ud r else C j).isSome=_
  by_cases e:j=d
  ·subst e;rw[if_pos rfl,ht];rfl
  ·rw[if_neg e];exact hI.s j (by omega)
 ·rw[show x.zA.length-d=(x.zA.length-(d+1))+1 from by omega,zDJ (t:=r) (by simp)]
  congr 1
  exact zG2 _ _ fun j hj=>by rw[if_neg (by omega)]
theorem CI.skip{L:Vec→Prop}{b:Mx}{d:Nat}{C:Nat→Option Vec}(hI:CI x L b (d+1) C)(hd:d<x.zA.length)(ht:tbl b d=ue):CI x L b d C∧uQ C d (x.zA.length-d)=uQ C (d+1) (x.zA.length-(d+1)):=by
 have hn:C d=ue:=by
  cases e:C d with
  |none=>rfl
  |some t=>have:=hI.lo e;omega
 refine⟨⟨hI.c,fun e=>by have:=hI.lo e;omega,hI.g,hI.r,fun j hj=>?_⟩,?_⟩
 ·by_cases e:j=d
  ·subst e;rw[hn,ht]
  ·exact hI.s j (by omega)
 ·rw[show x.zA.length-d=(x.zA.length-(d+1))+1 from by omega,zDI hn]
theorem CI.start{L:Vec→Prop}{b:Mx}(hb:b.length=x.zA.length):CI x L b x.zA.length (fun _=>ue):=
 ⟨(fun e=>by cases e),(fun e=>by cases e),(fun e=>by cases e),(fun e=>by cases e),fun j hj=>by rw[uI.2 (by rw[J3,Kh (by omega)];rfl)]⟩
 include h hc
theorem CI.can{L:Vec→Prop}{b:Mx}{C:Nat→Option Vec}(hI:CI x L b 0 C)(hW:WlB x L b []):zL0 x L C:=
 Wl.can (zGJ h hc) hW (fun k=>hI.s k (by omega)) fun{k t} e=>by obtain⟨c1,c2,c3,c4⟩:=hI.c e;exact⟨hI.g e,c2,c3,c4,hI.r e⟩
theorem zQb{L:Vec→Prop}{b:Mx}{d:Nat}{C:Nat→Option Vec}(hI:CI x L b (d+1) C)(hd:d<x.zA.length){t:Vec}(hT:V (suf x 0) t)(hg:zI6 x L t)(hz:∀i,i<d→at0 t i=0)(h1:at0 t d=1):
  ∃r,f_w x (uQ C (d+1) (x.zA.length-(d+1))) t=ud r∧Rd (V (suf x 0)) (mul (suf x 0)) (zeros (suf x 0).length) x.zA.length (fun v j=>at0 v j) L C d x.zA.length r:=by
 have h6:=h.os.1;have gI:f_D t=ud t:=by
  have:=zGa h (k:=0) (by omega) hc hT
  rwa [fv0]at this
 obtain⟨r,r1,r2⟩:=zDG h hc (C:=C) (fun e=>hI.c e) (L:=L) (d:=d) (fun e=>hI.g e) (u:=uQ C (d+1) (x.zA.length-(d+1))) (P:=zDH C (d+1) (x.zA.length-(d+1))) (x.zA.length-(d+1)) (d+1) 0 t (by omega) (by omega) rfl rfl (by omega) (by omega)
  ⟨hT,hg,hz,h1,fun i hi cR=>by omega⟩
 refine⟨r,?_,r2⟩;unfold f_w;rw[gI,bs,zQa h hc (C:=C) (fun e=>hI.c e) (d+1) _ (by omega),bs];have r1':zI (zLS x (uQ C (d+1) (x.zA.length-(d+1))) (zDH C (d+1) (x.zA.length-(d+1)))) (t,0)=ud r:=r1;rw[r1',bs]
theorem zL1{L:Vec→Prop}{b:Mx}(hb:b.length=x.zA.length)(hW:WlB x L b []):∃C,zRC ⟨x,b⟩=ud (uQ C 0 x.zA.length)∧zL0 x L C:=by
 have h6:=h.os.1;obtain⟨r,r1,C,rfl,r2⟩:=uO (body:=zNd ⟨x,b⟩) (Q:=fun r=> ∃C,r=uQ C 0 x.zA.length∧CI x L b 0 C)
  (fun s=> ∃(d:Nat)(C:Nat→Option Vec),s=(uQ C d (x.zA.length-d),(d:Int)-1)∧d≤x.zA.length∧CI x L b d C) (fun s=>(s.2+1).toNat) (fun s hs=>by
   obtain⟨d,C,rfl,hd,hI⟩:=hs;unfold zNd;simp only
   cases d with
   |zero=>
    right;rw[show decide (((0:Nat):Int)-1≥0)=ug from rfl,zM];exact⟨_,rfl,C,rfl,hI⟩
   |succ d=>
    left;rw[show(((d+1:Nat):Int)-1)=(d:Int)from by omega,show decide ((d:Int)≥0)=uf from ui (by omega),zK,zY [] (by omega),bs];cases ht:b.getD d []with
    |nil=>
     obtain⟨i1,i2⟩:=hI.skip (by omega) (uI.2 ht);rw[show(!(([]:List Int)).isEmpty)=ug from rfl,zM,zE (by omega) (by omega),bs];exact⟨_,rfl,⟨d,C,by rw[i2],by omega,i1⟩,by simp only;omega⟩
    |cons t0 ts=>
     have ep:tbl b d=ud (t0::ts):=sX.2 ⟨ht,by simp⟩;obtain⟨t1,t2,t3,t4⟩:=hW.t.h ep;obtain⟨r,e1,e2⟩:=zQb h hc hI (by omega) t2 (hW.th ep) t3 t4;obtain⟨i1,i2⟩:=hI.put (by omega) ep e2;rw[show(!((t0::ts)).isEmpty)=uf from rfl,zK,bs,e1,bs,yC (by have:=zI4 C (d+1) (x.zA.length-(d+1));simp only[Ji];omega),bs,zE (by omega) (by omega),bs];exact⟨_,rfl,⟨d,_,by rw[i2];rfl,by omega,i1⟩,by simp only;omega⟩) 1000 ([],(x.zA.length:Int)-1) (by simp only;omega) ⟨x.zA.length,fun _=>ue,by simp[uQ],Jh _,CI.start hb⟩
 refine⟨C,?_,r2.can h hc hW⟩;unfold zRC;simp only
 rw[hb,zE (by omega) (by omega),bs,r1,bs]
theorem zHB{M:Mx}(hM:∀a∈M,V (suf x 0) a):WlB x (· ∈M) (J1 x.zA.length []) M:=by
 have e:tbl (J1 x.zA.length [])=fun _=>ue:=by
  funext k
  rw[uI,J3,Js];split<;>rfl
 have _:=h;have _:=hc;rw[WlB,e];exact Wl.start M hM
theorem zG4{M:Mx}(hM:∀a∈M,V (suf x 0) a)(hl:M.length≤1000):∃C,zOn x M=ud (uQ C 0 x.zA.length)∧zL0 x (· ∈M) C:=by have h6:=h.os.1;obtain⟨g,b,e1,e2,e3⟩:=zPZ h hc (L:=(· ∈M)) (fun a ha=>hM a ha) (b:=J1 x.zA.length []) (by simp) (zHB h hc hM) hl;obtain⟨C,c1,c2⟩:=zL1 h hc e2 e3;refine⟨C,?_,c2⟩;unfold zOn zTl;rw[yN (by omega),bs,bs,e1,bs,c1,bs]
end
end Go.Pl

namespace Go.Pl
open Go Go.Ab Go.Wk Go.Pc
theorem zS5{C:Nat→Option Vec}(k l:Nat):uQ C k (l+1)=uQ C k l++(match C (k+l)with
  |none=>[]
  |some t=>[t]):=by
 unfold uQ;rw[List.range'_1_concat,List.filterMap_append]
 congr 1
 cases h:C (k+l)<;>simp[h]
section
variable {x:SPr} (h:Pres x) (hc:wE (suf x 0))
 include h hc
theorem zHC{b:Mx}{d:Nat}{t y:Vec}(hd:d<x.zA.length)(ht:V (suf x 0) t)(zt:∀j,j<d→at0 t j=0)(h1:at0 t d=1)(hy:V (suf x 0) y)(hn:at0 y d≠0)(hb:b.getD d []=t):
  ∃z,f_P x t (0-at0 y d)=ud z∧V (suf x 0) z∧(∀{Y:Vec→Prop},(∀a,Y a→V (suf x 0) a)→zI6 x Y t→zI6 x Y z)∧(∀j,j<d→at0 z j=0)∧at0 (mul (suf x 0) y z) d=0:=by
 have F:=zGJ h hc;have hr:=F.r hy hd;have ei:=(h.os.2 d hd).pos;have _:=hb;obtain⟨u,u1,u2,u3⟩:=zWK h hc ht (e:=at0 y d) (by have:=hr.1;omega) (by have:=hr.2;omega);obtain⟨k1,k2,k3⟩:=F.killr hd ht u1 u2 zt h1 hy;exact⟨_,by rw[show(0:Int)-at0 y d= -at0 y d from by omega];exact u3,k1,fun _ g=>(Gen.i g u1 u2).pw _,k2,k3⟩
theorem zL2{b:Mx}(hb:b.length=x.zA.length)(hT:Tab (V (suf x 0)) x.zA.length (fun v d=>at0 v d) (tbl b)){y:Vec}(hy:V (suf x 0) y):∃(z:Vec)(d:Nat),f_W x b y=ud ((d:Int),z)∧
  Sf (V (suf x 0)) (mul (suf x 0)) (zeros (suf x 0).length) x.zA.length (fun v d=>at0 v d) (tbl b) y z∧d≤x.zA.length∧(∀j,j<d→at0 z j=0)∧(d<x.zA.length→at0 z d≠0∧tbl b d=ue):=by
 have h6:=h.os.1;have F:=zGJ h hc;obtain⟨r,r1,r2⟩:=wS (body:=zR5 x b) (Q:=fun r=>match r with
   |.inl z=>Sf (V (suf x 0)) (mul (suf x 0)) (zeros (suf x 0).length) x.zA.length (fun v d=>at0 v d) (tbl b) y z∧ ∀j,j<x.zA.length→at0 z j=0
   |.inr p=> ∃(z:Vec)(d:Nat),p=((d:Int),z)∧Sf (V (suf x 0)) (mul (suf x 0)) (zeros (suf x 0).length) x.zA.length (fun v d=>at0 v d) (tbl b) y z∧d<x.zA.length∧(∀j,j<d→at0 z j=0)∧at0 z d≠0∧tbl b d=ue)
  (fun d s=> ∃z:Vec,s=(z,(d:Int))∧Sf (V (suf x 0)) (mul (suf x 0)) (zeros (suf x 0).length) x.zA.length (fun v d=>at0 v d) (tbl b) y z∧ ∀j,j<d→at0 z j=0) x.zA.length (fun d s hd hs=>by
   obtain⟨z,rfl,sf,z0⟩:=hs;have hz:=sf.s;have fM:=zCr h hc hz;unfold zR5;simp only
   rw[show decide ((d:Int)<(b.length:Int))=uf from ui (by omega),zK,zY 0 (by omega),bs]
   by_cases h0:at0 z d=0
   ·left
    rw[show z.getD d 0=0 from h0,show((0:Int)==0)=uf from rfl,zK,zE (by omega) (by omega),bs,cs];refine⟨_,rfl,z,rfl,sf,fun j hj=>?_⟩
    by_cases e:j=d
    ·rw[e];exact h0
    ·exact z0 j (by omega)
   ·rw[show(z.getD d 0==0)=ug from by simpa using h0,zM,zY [] (by omega),bs]
    cases ht:b.getD d []with
    |nil=>
     right;rw[show(((([]:List Int)).length:Int)==0)=uf from rfl,zK];exact⟨_,rfl,z,d,rfl,sf,hd,z0,h0,uI.2 ht⟩
    |cons t0 ts=>
     left;have ep:tbl b d=ud (t0::ts):=sX.2 ⟨ht,by simp⟩;obtain⟨_,t2,t3,t4⟩:=hT.h ep;obtain⟨w,w1,w2,w3,w4,w5⟩:=zHC h hc hd t2 t3 t4 hz h0 ht;obtain⟨s1,s2⟩:=Sf.right F hT hd hz z0 h0 ep w3 w2 w4 w5;have hr:=F.r hz hd;have ei:=(h.os.2 d hd).pos;rw[show((((t0::ts):List Int).length:Int)==0)=ug from by simp;omega,zM,bs,bs];rw[show z.getD d 0=at0 z d from rfl,zE (by have:=hr.2;omega) (by have:=hr.1;omega),bs,w1,bs,zKl h hc hz w2,bs,zE (by omega) (by omega),bs,cs];exact⟨_,rfl,_,rfl,sf.trans s1,s2⟩) (fun s hs=>by
   obtain⟨z,rfl,sf,z0⟩:=hs;unfold zR5;simp only
   rw[show decide ((x.zA.length:Int)<(b.length:Int))=ug from uh (by omega),zM];exact⟨_,rfl,sf,z0⟩) (s:=(y,0)) ⟨y,rfl,Sf.refl hy,fun j hj=>by omega⟩
 unfold f_W;rw[uX (by rw[zCr h hc hy];omega),bs,r1,bs];cases r with
 |inl z=>exact⟨z,x.zA.length,by simp only[hb],r2.1,Jh _,r2.2,fun hh=>absurd hh (Jb3 _)⟩
 |inr p=>
  obtain⟨z,d,rfl,p1,p2,p3,p4,p5⟩:=r2;exact⟨z,d,rfl,p1,by omega,p3,fun _=>⟨p4,p5⟩⟩
theorem zL3{b:Mx}(hb:b.length=x.zA.length)(hT:Tab (V (suf x 0)) x.zA.length (fun v d=>at0 v d) (tbl b)){y:Vec}(hy:V (suf x 0) y){d:Nat}(hd:d<x.zA.length)(hn:tbl b d=ue){s:Mx×Mx}(hs:s.1=b){g:Int×List Int}(hg:g.1=(d:Int)){Q:Mx}(hQ:Q.length≤100000):
  ∃W:Mx,zI (zOg x s g y) (Q,0)=ud (Q++W)∧W.length≤x.zA.length∧(∀w∈W,V (suf x 0) w∧ ∃k u,tbl b k=ud u∧mul (suf x 0) (mul (suf x 0) u y) w=mul (suf x 0) y u)∧
   ∀k u,tbl b k=ud u→ ∃w,w∈W∧mul (suf x 0) (mul (suf x 0) u y) w=mul (suf x 0) y u:=by
 have h6:=h.os.1;obtain⟨r,r1,W,rfl,r2,r3,r4⟩:=wS (body:=zOg x s g y)
  (Q:=fun r=> ∃W:Mx,r=Q++W∧W.length≤x.zA.length∧(∀w∈W,V (suf x 0) w∧ ∃k u,tbl b k=ud u∧mul (suf x 0) (mul (suf x 0) u y) w=mul (suf x 0) y u)∧
   ∀k u,tbl b k=ud u→ ∃w,w∈W∧mul (suf x 0) (mul (suf x 0) u y) w=mul (suf x 0) y u)
  (fun i s=> ∃W:Mx,s=(Q++W,(i:Int))∧W.length≤i∧(∀w∈W,V (suf x 0) w∧ ∃k u,tbl b k=ud u∧mul (suf x 0) (mul (suf x 0) u y) w=mul (suf x 0) y u)∧
   ∀k u,k<i→tbl b k=ud u→ ∃w,w∈W∧mul (suf x 0) (mul (suf x 0) u y) w=mul (suf x 0) y u) x.zA.length (fun i s' hi gH=>by
   obtain⟨W,rfl,w1,w2,w3⟩:=gH;left;unfold zOg;simp only[hs,hg];rw[xH hi,zK]
   by_cases e:i=d
   ·subst e
    rw[show(((i:Nat):Int) != (i:Int))=ug from by simp,zM,zE (by omega) (by omega),bs,cs];refine⟨_,rfl,W,rfl,by omega,w2,fun k u hk hu=>?_⟩
    by_cases e:k=i
    ·subst e;rw[hn]at hu;cases hu
    ·exact w3 k u (by omega) hu
   ·rw[show(((i:Nat):Int) != (d:Int))=uf from by simp;omega,zK,show((d:Nat):Int).toNat=d from rfl,zY [] (by rw[Lq];omega),bs]
    rw[show(b.set d y).getD i []=b.getD i []from by rw[J3,Jb4 (fun g=>e g.symm),←J3]];cases ht:b.getD i []with
    |nil=>
     rw[show decide (((([]:List Int)).length:Int)> 0)=ug from rfl,zM,zE (by omega) (by omega),bs,cs];refine⟨_,rfl,W,rfl,by omega,w2,fun k u hk hu=>?_⟩
     by_cases e:k=i
     ·subst e
      rw[uI.2 ht]at hu;cases hu
     ·exact w3 k u (by omega) hu
    |cons t0 ts=>
     have ep:tbl b i=ud (t0::ts):=sX.2 ⟨ht,by simp⟩;obtain⟨_,t2,_,_⟩:=hT.h ep;obtain⟨w,v1,v2,v3⟩:=zUN h hc hy t2;rw[show decide ((((t0::ts):List Int).length:Int)> 0)=uf from ui (by simp only[Jl];omega),zK,v3,bs,yC (by simp only[J7,Ji];omega),bs,zE (by omega) (by omega),bs,cs];refine⟨_,rfl,W++[w],by rw[J9],by simp only[J7,Ji];omega,fun a ha=>?_,fun k u hk hu=>?_⟩
     ·rcases Jt.1 ha with ha|ha
      ·exact w2 a ha
      ·simp at ha;subst ha
       exact⟨v1,i,_,ep,v2⟩
     ·by_cases e:k=i
      ·subst e
       rw[ep]at hu;cases hu;exact⟨w,by simp,v2⟩
      ·obtain⟨a,a1,a2⟩:=w3 k u (by omega) hu
       exact⟨a,by simp[a1],a2⟩) (fun s' gH=>by
   obtain⟨W,rfl,w1,w2,w3⟩:=gH;unfold zOg;simp only
   rw[tK,zM];exact⟨_,rfl,W,rfl,w1,w2,fun k u hu=>w3 k u (hT.h hu).1 hu⟩) (s:=(Q,0)) ⟨[],by simp,Jh _,by simp,fun k u hk=>by omega⟩
 exact⟨W,r1,r2,r3,r4⟩
theorem zL4{L:Vec→Prop}(hL:∀a,L a→V (suf x 0) a){b:Mx}(hb:b.length=x.zA.length){q:Vec}{Q:Mx}(hW:WlB x L b (Q++[q]))(hQ:Q.length≤10000):
  ∃(b':Mx)(Q':Mx),zOh x (b,Q++[q])=ud (.inl (b',Q'))∧b'.length=x.zA.length∧WlB x L b' Q'∧
   (b'=b∧Q'=Q∨zBP b'+1=zBP b∧Q'.length≤Q.length+x.zA.length+2):=by
 have h6:=h.os.1;have F:=zGJ h hc;have G:=g0 h hc;have hq:=hW.q q (by simp);obtain⟨z,d,s1,sf,s3,s4,s5⟩:=zL2 h hc hb hW.t hq.1;have hz:=sf.s;have fM:=zCr h hc hz;unfold zOh;simp only
 have gg:((Q++[q]).length:Int)=(Q.length:Int)+1:=by simp
 rw[show decide (((Q++[q]).length:Int)> 0)=uf from ui (by omega),zK,gg,show(Q.length:Int)+1-1=(Q.length:Int)from by omega,zE (by omega) (by omega),bs];rw[show ixO (Q++[q]) (Q.length:Int)=ud q from by rw[vC,Ja (Jh _),Ka];rfl,bs];rw[show yB (Q++[q]) 0 (Q.length:Int)=ud Q from by unfold yB;rw[if_pos ⟨by omega,by omega,by omega⟩];simp,bs,s1,bs]
 dsimp only
 by_cases hd:d<x.zA.length
 ·obtain⟨n1,n2⟩:=s5 hd
  have ei:=h.os.2 d hd;have hp7:=ei.pos;have hr:=F.r hz hd;obtain⟨v,v1,v2,v3,v4⟩:=zPC ei (x:=at0 z d) (by have:=hr.1;omega) (by have:=hr.2;omega);have ci:V (suf x 0) (pw (mul (suf x 0)) (zeros (suf x 0).length) z v.toNat):=wU G.toMon hz _;obtain⟨y,ch⟩:∃y,y=pw (mul (suf x 0)) (zeros (suf x 0).length) z v.toNat:=⟨_,rfl⟩;rw[←ch]at ci;have pP:=F.pwc hd hz s4 v.toNat;rw[←ch]at pP;have eO:at0 y d=1:=by have:=pP.2;rw[this,show((v.toNat:Nat):Int)=v from by omega,Int.mul_comm];exact v4
  have bz:V (suf x 0) (pw (mul (suf x 0)) (zeros (suf x 0).length) y (at0 x.zA d).toNat):=wU G.toMon ci _;have fN:y≠[]:=zG1 (d:=d) (by rw[eO];decide);rw[show(((d:Nat):Int)==(x.zA.length:Int))=ug from by simp;omega,zM,zY 0 (by omega),bs,zY 0 hd,bs];rw[show z.getD d 0=at0 z d from rfl,show x.zA.getD d 0=at0 x.zA d from rfl,v1,bs,zTF h hc hz v2 (by omega),bs,←ch,zY [] (by omega),bs,yC (by simp only[Ji];omega),bs];rw[zTF h hc ci (by omega) (by omega),bs,yC (by simp only[J7,Ji];omega),bs];obtain⟨W,W1,W2,W3,W4⟩:=zL3 h hc hb hW.t ci hd n2 (s:=(b,Q++[q])) rfl (g:=((d:Int),z)) rfl (Q:=Q++[z]++[pw (mul (suf x 0)) (zeros (suf x 0).length) y (at0 x.zA d).toNat]) (by simp only[J7,Ji];omega);rw[W1,bs];refine⟨_,_,rfl,by rw[Lq];exact hb,?_,.inr ⟨zG0 b d y (by omega) (uI.1 n2) fN,by simp only[J7,Ji];omega⟩⟩;rw[show((d:Nat):Int).toNat=d from rfl];have gn:=zI3 (b:=b) (d:=d) (y:=y) (by omega) fN;have bx:zI6 x L z:=sf.h L hL hW.th hq.2;have cj:zI6 x L y:=by rw[ch];exact bx.pw _
  rw[WlB,gn];refine Wl.add F hW hd n2 ci cj pP.1 eO (x:=q) (fun k hk=>?_) (fun a ha=>?_) (fun a ha=>?_) (by simp) (fun k u hu=>?_)
  ·have dZ:∀k t,tbl b k=ud t→(fun j=>if j=d then ud y else tbl b j) k=ud t:=fun k t hk=>by
    show(if k=d then ud y else tbl b k)=ud t;rw[if_neg]
    ·exact hk
    ·intro e;rw[e,n2]at hk;cases hk
   have u6:∀a∈Q++[z]++[pw (mul (suf x 0)) (zeros (suf x 0).length) y (at0 x.zA d).toNat]++W,V (suf x 0) a:=fun a ha=>by
    simp only[Jt,List.mem_singleton]at ha;rcases ha with((ha|rfl)|rfl)|ha
    ·exact(hW.q a (by simp[ha])).1
    ·exact hz
    ·exact bz
    ·exact(W3 a ha).1
   have:=sf.g k (Q++[z]++[pw (mul (suf x 0)) (zeros (suf x 0).length) y (at0 x.zA d).toNat]++W) u6 hk (.x (.inr ⟨by simp,fun j hj fZ=>sf.d k hk j hj fZ⟩));exact this.tr dZ fun a ha k hk=>.x (.inr ⟨ha,hk⟩)
  ·simp only[Jt,List.mem_singleton]at ha
   rcases ha with((ha|rfl)|rfl)|ha
   ·exact hW.q a (by simp[ha])
   ·exact⟨hz,bx⟩
   ·exact⟨bz,cj.pw _⟩
   ·obtain⟨a1,k,u,a2,a3⟩:=W3 a ha
    refine⟨a1,Gen.right G hL (.m (hW.th a2) cj) a1 ?_⟩;rw[a3];exact .m cj (hW.th a2)
  ·simp only[Jt,List.mem_singleton]at ha
   rcases ha with ha|rfl
   ·exact .inr (by simp[ha])
   ·exact .inl rfl
  ·obtain⟨w,w1,w2⟩:=W4 k u hu
   exact⟨w,by simp[w1],.inl w2⟩
 ·rw[show(((d:Nat):Int)==(x.zA.length:Int))=uf from by simp;omega,zK]
  refine⟨b,Q,rfl,hb,?_,.inl ⟨rfl,rfl⟩⟩;have aE:z=zeros (suf x 0).length:=F.ex hz G.ein fun j hj=>by have e0:=F.e0 hj;rw[e0,s4 j (by omega)]
  refine Wl.drop hW (x:=q) (fun k hk=>?_) (fun a ha=>by simp[ha]) (fun a ha=>by simp at ha;rcases ha with ha|ha;exact .inr ha;exact .inl ha);exact sf.g k Q (fun a ha=>(hW.q a (by simp[ha])).1) hk (by rw[aE];exact .one)
end
end Go.Pl

namespace Go.Pl
open Go Go.Ab Go.Wk Go.Pc
section
variable {x:SPr} (h:Pres x) (hc:wE (suf x 0))
 include h hc
theorem zL5{L:Vec→Prop}{b D:Mx}{d:Nat}(hb:b.length=x.zA.length)(hD:D.length=x.zA.length)(hI:CI x L b (d+1) (tbl D))(hd:d<x.zA.length){s:Mx×Int}(hs:s.1=D){t:Vec}(hT:V (suf x 0) t)(hg:zI6 x L t)(hz:∀i,i<d→at0 t i=0)(h1:at0 t d=1)(hL:∀a,L a→V (suf x 0) a):
  ∃r,zI (zR7 x b s) (t,((d+1:Nat):Int))=ud r∧Rd (V (suf x 0)) (mul (suf x 0)) (zeros (suf x 0).length) x.zA.length (fun v j=>at0 v j) L (tbl D) d x.zA.length r:=by
 have h6:=h.os.1;have F:=zGJ h hc;have _:=hL;obtain⟨r,r1,r2⟩:=uO (body:=zR7 x b s) (Q:=fun r=>Rd (V (suf x 0)) (mul (suf x 0)) (zeros (suf x 0).length) x.zA.length (fun v j=>at0 v j) L (tbl D) d x.zA.length r)
  (fun st=> ∃(k:Nat)(y:Vec),st=(y,(k:Int))∧d<k∧k≤x.zA.length∧Rd (V (suf x 0)) (mul (suf x 0)) (zeros (suf x 0).length) x.zA.length (fun v j=>at0 v j) L (tbl D) d k y) (fun st=>x.zA.length-st.2.toNat) (fun st gF=>by
   obtain⟨k,y,rfl,k1,k2,hR⟩:=gF;have hy:=hR.s;unfold zR7;simp only[hs]
   by_cases hk:k<x.zA.length
   ·left
    rw[show decide ((k:Int)<(b.length:Int))=uf from ui (by omega),zK,zY [] (by omega),bs];cases ht:D.getD k []with
    |nil=>
     rw[show decide (((([]:List Int)).length:Int)> 0)=ug from rfl,zM,zE (by omega) (by omega),bs,cs];exact⟨_,rfl,⟨k+1,y,rfl,by omega,by omega,hR.skip (.inl (uI.2 ht))⟩,by simp only[Jd];omega⟩
    |cons t0 ts=>
     have ep:tbl D k=ud (t0::ts):=sX.2 ⟨ht,by simp⟩;obtain⟨_,t2,t3,t4⟩:=hI.c ep;rw[show decide ((((t0::ts):List Int).length:Int)> 0)=uf from ui (by simp only[Jl];omega),zK,zY 0 (by rw[zCr h hc hy];exact hk),bs]
     by_cases h0:at0 y k=0
     ·rw[show(y.getD k 0 != 0)=ug from by simpa using h0,zM,zE (by omega) (by omega),bs,cs]
      exact⟨_,rfl,⟨k+1,y,rfl,by omega,by omega,hR.skip (.inr h0)⟩,by simp only[Jd];omega⟩
     ·obtain⟨w,w1,w2,w3,w4,w5⟩:=zHC h hc hk t2 t3 t4 hy h0 ht
      have hr:=F.r hy hk;have ei:=(h.os.2 k hk).pos;have hw:zI6 x L w:=w3 hL (hI.g ep);rw[show(y.getD k 0 != 0)=uf from by simpa using h0,zK,bs,bs,show y.getD k 0=at0 y k from rfl,zE (by have:=hr.2;omega) (by have:=hr.1;omega),bs,w1,bs,zKl h hc hy w2,bs,zE (by omega) (by omega),bs,cs];exact⟨_,rfl,⟨k+1,_,rfl,by omega,by omega,hR.step F k1 hk w2 hw w4 w5⟩,by simp only[Jd];omega⟩
   ·right
    have e:k=x.zA.length:=by omega
    subst e;rw[show decide ((x.zA.length:Int)<(b.length:Int))=ug from uh (by omega),zM];exact⟨_,rfl,hR⟩) 1000 (t,((d+1:Nat):Int)) (by simp only;omega) ⟨d+1,t,rfl,by omega,by omega,hT,hg,hz,h1,fun i hi cR=>by omega⟩
 exact⟨r,r1,r2⟩
theorem zQc{D:Mx}(hD:D.length=x.zA.length):zI (zOf D) ([],0)=ud (uQ (tbl D) 0 x.zA.length):=by
 have h6:=h.os.1;have _:=hc;have:=zR (body:=zOf D) (r:=uQ (tbl D) 0 x.zA.length) (fun i=>(uQ (tbl D) 0 i,(i:Int))) x.zA.length (fun i hi=>by
  have hl:=zI4 (tbl D) 0 i;unfold zOf;simp only
  rw[show decide ((i:Int)<(D.length:Int))=uf from ui (by omega),zK,zY [] (by omega),bs,zS5,J6];cases ht:D.getD i []with
  |nil=>
   rw[show decide (((([]:List Int)).length:Int)> 0)=ug from rfl,zM,zE (by omega) (by omega),bs,cs,uI.2 ht];simp
  |cons t0 ts=>
   rw[show decide ((((t0::ts):List Int).length:Int)> 0)=uf from ui (by simp only[Jl];omega),zK,bs,yC (by simp only[Ji];omega),bs,zE (by omega) (by omega),bs,cs,(sX (t:=t0::ts)).2 ⟨ht,by simp⟩]) (by
  unfold zOf;simp only
  rw[show decide ((x.zA.length:Int)<(D.length:Int))=ug from uh (by omega),zM])
 exact this
theorem zNK{L:Vec→Prop}(hL:∀a,L a→V (suf x 0) a){b:Mx}(hb:b.length=x.zA.length)(hW:WlB x L b []):∃C,f_s x b=ud (uQ C 0 x.zA.length)∧zL0 x L C:=by
 have h6:=h.os.1;have e0:tbl (J1 x.zA.length [])=fun _=>ue:=by
  funext k
  rw[uI,J3,Js];split<;>rfl
 obtain⟨D,r1,r2,r3⟩:=uO (body:=zTk x b) (Q:=fun D=>D.length=x.zA.length∧CI x L b 0 (tbl D))
  (fun s=> ∃(d:Nat)(D:Mx),s=(D,(d:Int)-1)∧d≤x.zA.length∧D.length=x.zA.length∧CI x L b d (tbl D)) (fun s=>(s.2+1).toNat) (fun s hs=>by
   obtain⟨d,D,rfl,hd,hD,hI⟩:=hs;unfold zTk;simp only
   cases d with
   |zero=>
    right;rw[show decide (((0:Nat):Int)-1≥0)=ug from rfl,zM];exact⟨_,rfl,hD,hI⟩
   |succ d=>
    left;rw[show(((d+1:Nat):Int)-1)=(d:Int)from by omega,show decide ((d:Int)≥0)=uf from ui (by omega),zK,zY [] (by omega),bs];cases ht:b.getD d []with
    |nil=>
     obtain⟨i1,_⟩:=hI.skip (by omega) (uI.2 ht);rw[show(((([]:List Int)).length:Int)==0)=uf from rfl,zK,zE (by omega) (by omega),bs];exact⟨_,rfl,⟨d,D,rfl,by omega,hD,i1⟩,by simp only;omega⟩
    |cons t0 ts=>
     have ep:tbl b d=ud (t0::ts):=sX.2 ⟨ht,by simp⟩;obtain⟨t1,t2,t3,t4⟩:=hW.t.h ep;obtain⟨r,e1,e2⟩:=zL5 h hc hb hD hI (by omega) (s:=(D,(d:Int))) rfl t2 (hW.th ep) t3 t4 hL;obtain⟨i1,_⟩:=hI.put (by omega) ep e2;have aY:r≠[]:=zG1 (d:=d) (by have:=e2.o;rw[this];decide);rw[show((((t0::ts):List Int).length:Int)==0)=ug from by simp;omega,zM,bs,zE (by omega) (by omega),bs,cs,e1,bs,zY [] (by omega),bs,zE (by omega) (by omega),bs,show((d:Nat):Int).toNat=d from rfl];refine⟨_,rfl,⟨d,_,rfl,by omega,by rw[Lq];exact hD,?_⟩,by simp only;omega⟩;rw[zI3 (by omega) aY];exact i1) 1000 (J1 x.zA.length [],(x.zA.length:Int)-1) (by simp only;omega) ⟨x.zA.length,_,rfl,Jh _,by simp,by rw[e0];exact CI.start hb⟩
 refine⟨tbl D,?_,r3.can h hc hW⟩;unfold f_s;rw[hb,yN (by omega),bs,zE (by omega) (by omega),bs,r1,bs,zQc h hc r2,bs]
theorem zL6{M:Mx}(hM:∀a∈M,V (suf x 0) a)(hl:M.length≤1000):∃C,f_x x M=ud (uQ C 0 x.zA.length)∧zL0 x (· ∈M) C:=by
 have h6:=h.os.1;obtain⟨b,r1,r2,r3⟩:=uO (body:=zOh x) (Q:=fun b=>b.length=x.zA.length∧WlB x (· ∈M) b [])
  (fun s=> ∃(b Q:Mx),s=(b,Q)∧b.length=x.zA.length∧WlB x (· ∈M) b Q∧zBP b*20+Q.length≤2000) (fun s=>zBP s.1*20+s.2.length) (fun s hs=>by
   obtain⟨b,Q,rfl,hb,hW,hm⟩:=hs;rcases List.eq_nil_or_concat Q with rfl|⟨Q,q,rfl⟩
   ·right
    unfold zOh;simp only
    rw[show decide ((([]:Mx).length:Int)> 0)=ug from rfl,zM];exact⟨_,rfl,hb,hW⟩
   ·left
    rw[List.concat_eq_append]at hW hm ⊢
    simp only[J7,Ji]at hm;obtain⟨b',Q',e1,e2,e3,e4⟩:=zL4 h hc (L:=(· ∈M)) (fun a ha=>hM a ha) hb hW (by omega);refine⟨_,e1,⟨b',Q',rfl,e2,e3,?_⟩,?_⟩
    ·rcases e4 with⟨rfl,rfl⟩|⟨e4,e5⟩<;>omega
    ·simp only[J7,Ji]
     rcases e4 with⟨rfl,rfl⟩|⟨e4,e5⟩<;>omega) 100000 (J1 x.zA.length [],M) (by have:=zCm (J1 x.zA.length []);simp only[Jy]at this ⊢;omega) ⟨_,M,rfl,by simp,zHB h hc hM,by have:=zCm (J1 x.zA.length []);simp only[Jy]at this;omega⟩
 obtain⟨C,c1,c2⟩:=zNK h hc (L:=(· ∈M)) (fun a ha=>hM a ha) r2 r3;refine⟨C,?_,c2⟩;unfold f_x;rw[yN (by omega),bs,zNB (by omega) (fun i hi=>by have:=hM (M.getD i []) (by rw[J3,J5 hi];exact Jx hi);rw[zCr h hc this];omega),bs,r1,bs,c1,bs]
theorem zG5{M:Mx}(hM:∀a∈M,V (suf x 0) a)(hl:M.length≤1000):∃C,f_x x M=ud (uQ C 0 x.zA.length)∧zOn x M=ud (uQ C 0 x.zA.length)∧zL0 x (· ∈M) C:=by obtain⟨C,c1,c2⟩:=zL6 h hc hM hl;obtain⟨D,d1,d2⟩:=zG4 h hc hM hl;have e:=Pc.Can.uniq (zGJ h hc) (fun ha hb=>Gen.m ha hb) (fun ha hb cV=>Gen.i ha hb cV) c2 d2;exact⟨C,c1,by rw[d1,zG2 _ _ fun j _=>(e j).symm],c2⟩
end
end Go.Pl

namespace Go.Pl
open Go Go.Ab Go.Wk Go.Pc
def mvG(n:Nat)(u:Mx):Mx:=gl n fun i=>vL n i++u.getD i []
section
variable {x:SPr}{m:zC}{n D:Nat}{u:Mx} (hu:u.length=n) (hr:∀i,i<n→(u.getD i []).length=D) (hn:n≤6) (hD:D≤3)
 include hu hr hn hD
theorem zKm(ho:x.zA.length=n):zTj x m u=ud (mvG n u):=by
 unfold zTj;rw[zDA (body:=zK9 x u) n (fun i=>vL n i++u.getD i []) (fun i acc hi ha=>by
  have:=hr i hi;unfold zK9;simp only
  rw[hu,xH hi,zK,ho,zWH hi (by omega),bs,zY [] (by omega),bs,yC (by rw[vL,yW];omega),bs,yC (by simp;omega),bs,zE (by omega) (by omega),bs,cs]) (fun acc=>by
  unfold zK9;simp only
  rw[hu,tK,zM]),bs]
 rfl
theorem zGK:f_X (n:Int) u=ud (mvG n u):=by
 unfold f_X;rw[zDA (body:=zR4 (n:Int) u) n (fun i=>vL n i++u.getD i []) (fun i acc hi ha=>by
  have:=hr i hi;unfold zR4;simp only
  rw[hu,xH hi,zK,zY [] (by omega),bs,jK hi (by omega),bs,zIv (by rw[vL,yW];omega) (by omega),bs,yC (by simp;omega),bs,zE (by omega) (by omega),bs,cs]) (fun acc=>by
  unfold zR4;simp only
  rw[hu,tK,zM]),bs]
 rfl
end
theorem zQd{p:Int}{D:Nat}{r s:List Int}:zAv p D r 1 s=zAv p D s 1 r:=by
 unfold zAv
 congr 1
 funext j
 rw[Ul,Ul,Int.add_comm]
theorem zWL{x:SPr}{m:zC}{D:Nat}{T u:Mx}(hx:zED x)(hD:MOk x.zA.length m D)(hv:VOk x.zA.length m.Prime D u):∀a∈mvG x.zA.length u,V (suf (ext x.zA.length D x m T) 0) a:=by
 intro a ha;obtain⟨i,hi,rfl⟩:=Je.1 ha;rw[Ku]at hi;have eT:=hv.2 i hi;have hl:(ext x.zA.length D x m T).zA.length=x.zA.length+D:=by simp[ext]
 have fm:(vL x.zA.length i).length=x.zA.length:=by rw[vL,yW]
 refine zSl (x.zA.length+D) 0 _ (by omega) (by rw[J7,fm,eT.1]) fun j hj=>?_
 rw[J6];have h7:=hD.p.pos
 by_cases g:j<x.zA.length
 ·have e1:at0 (vL x.zA.length i++u.getD i []) j=if j=i then 1 else 0:=by
   simp only[at0,J3];rw[Jv (by omega)];simp[vL,mkv,g]
  have e2:at0 (ext x.zA.length D x m T).zA j=at0 x.zA j:=by simp only[ext,at0,J3];rw[Jv g]
  have:=(hx.os.2 j g).pos;rw[e1,e2];split<;>omega
 ·obtain⟨k,rfl⟩:∃k,j=x.zA.length+k:=⟨j-x.zA.length,by omega⟩
  have hk:k<D:=by omega
  have e1:at0 (vL x.zA.length i++u.getD i []) (x.zA.length+k)=at0 (u.getD i []) k:=by simp only[at0,J3];rw[Ja (by omega),fm,show x.zA.length+k-x.zA.length=k from by omega]
  have e2:at0 (ext x.zA.length D x m T).zA (x.zA.length+k)=m.Prime:=by simp only[ext,at0,J3];rw[Ja (by omega),show x.zA.length+k-x.zA.length=k from by omega,Js,if_pos hk];rfl
  rw[e1,e2];exact eT.2 k hk
theorem zS6{x:SPr}(h:Pres x)(hc:wE (suf x 0)){L:Vec→Prop}{C:Nat→Option Vec}(hC:zL0 x L C):S2 (uQ C 0 x.zA.length):=by
 have h6:=h.os.1;have h1:=zI4 C 0 x.zA.length;have:=zH7 (c:=c1) (b:=9) (xs:=uQ C 0 x.zA.length) (fun r hr=>by obtain⟨j,_,hj⟩:=List.mem_filterMap.1 hr;have hl:=zCr h hc (hC.i hj).2.2.1;show r.length≤9;omega)
 simp only[S2,c2];omega
theorem zCZ{x:SPr}{m:zC}{T u:Mx}(hx:zBg x)(hm:zFS m)(hT:S2 T)(hu:S2 u):∃g k,zOi x m T u=ud (g,k)∧zLT x m T u=ud (g,k)∧S2 g:=by
 have tz:T.length≤1048576:=hT.len;have fm:u.length≤1048576:=hu.len;have pR:x.zA.length≤1048576:=hx.1;have bj:=S3.len hm;have eG:S2 []:=by simp[S2,c2,sm]
 unfold zOi zLT;rcases(zC5 (m:=m) pR).both (zC6 (m:=m) pR bj)with⟨s1,i1,hM⟩|⟨s1,i1,hM⟩
 ·obtain⟨gK,D,hD,hr⟩:=hM
  have gX:=gK.2.2;have h6:=gX.n6;have h3:=hD.d3;rw[s1,i1];simp only[bs,Jc,zM];rcases(zJY hD.p hD.d (by omega) fm).both (zJX hD.p hD.d (by omega) fm)with⟨s2,i2,hV⟩|⟨s2,i2,hV⟩
  ·rcases(jH gX hD tz).both (zBO gX hD tz)with⟨s3,i3,hK⟩|⟨s3,i3,hK⟩
   ·obtain⟨c,e1,e2,e3⟩:=zNF (L:=[T]) hx hm tz tz (by simp) (fun t=>by simp)
    rw[s2,i2,i3];simp only[bs,Jc,zM];rw[e1];unfold zTi;rw[e2];simp only[bs]
    by_cases g:c=0
    ·obtain⟨_,D',hD',_,kT,_⟩:=e3 g
     have hDD:D'=D:=by have h1:=hD.d;have h2:=hD'.d;omega
     subst hDD;subst g;have hE:=zS3 gX hD kT.1;have hs:=zNA hE;rw[show((0:Int) != 0)=ug from rfl,zM,zM];unfold zVa zSW;rw[zPD hE,zKb hE,bs,bs];rcases(jP hs.1).both (jO hs.1)with⟨s4,i4,hP⟩|⟨s4,i4,_⟩
     ·rw[s4,i4]
      simp only[bs,Jc,zM];rw[show((0:Int) != 0)=ug from rfl];simp only[zM];obtain⟨f1,f2,f3⟩:=zLz gX hD kT.1;have hb:=tX x.zA.length (by omega);have cf:=zPX gX.toPres h6;have hrD:base x.zA.length x.zA.length*D'≤21*3:=Gu hb.2.1 h3;have gM:Row m.Prime (base x.zA.length x.zA.length*D') ((wL x).map (dfc m D' u)).flatten:=by
       have:=zJZ (p:=m.Prime) (D:=D') (xs:=(wL x).map (dfc m D' u)) fun r hr=>by obtain⟨q,_,rfl⟩:=Je.1 hr;exact zGm hD.p
       rwa [Jj,cf]at this
      have hdl:((wL x).map (dfc m D' u)).length≤21:=by rw[Jj,cf];omega
      rw[f2,bs,zLp gX.toPres hD hV,bs,zH5 (by omega) (by rw[gM.1];omega),bs,sQ hD.p f1 gM (by omega) (by omega),bs];rw[zIu gX.toPres hD hV,bs,zAj (by omega) (by rw[gM.1];omega),bs,f3,bs,zEq hD.p gM f1 (by omega) (by omega),bs,zQd];rcases(zH3 (v:=zAv m.Prime (base x.zA.length x.zA.length*D') ((wL x).map (dfc m D' u)).flatten 1 T.flatten) (by rw[zGl];omega)).both (zJW (v:=zAv m.Prime (base x.zA.length x.zA.length*D') ((wL x).map (dfc m D' u)).flatten 1 T.flatten) (by rw[zGl];omega))with⟨s5,i5,_⟩|⟨s5,i5,_⟩
      ·rw[s5,i5]
       simp only[bs,Jc,zM];have pU:∀i,i<x.zA.length→(u.getD i []).length=D':=fun i hi=>(hV.2 i hi).1
       have hPe:Pres (ext x.zA.length D' x m T):=hP.toPres;obtain⟨C,c1,c2,c3⟩:=zG5 hPe kT.2 (M:=mvG x.zA.length u) (zWL gX hD hV) (by rw[mvG,uP];omega);rw[zKm hV.1 pU h6 h3 rfl,bs,c1,bs,zGK hV.1 pU h6 h3,bs,c2,bs];exact⟨_,_,rfl,rfl,zS6 hPe kT.2 c3⟩
      ·rw[s5,i5]
       simp only[bs,K2,zK];exact⟨_,_,rfl,rfl,eG⟩
     ·rw[s4,i4]
      simp only[bs,K2,zK];rw[show((3:Int) != 0)=uf from rfl];simp only[zK];exact⟨_,_,rfl,rfl,eG⟩
    ·rw[show(c != 0)=uf from by simpa using g]
     simp only[zK,bs];rw[show(c != 0)=uf from by simpa using g];simp only[zK];exact⟨_,_,rfl,rfl,eG⟩
   ·rw[s2,i3]
    simp only[bs,Jc,zM,K2,zK];unfold zR1;rw[s1,s3];simp only[bs,Jc,zM,K2,zK];rw[show((1:Int) != 0)=uf from rfl,zK];exact⟨_,_,rfl,rfl,eG⟩
  ·rw[s2,i2]
   rcases zBO gX hD tz with⟨i3,_⟩|⟨i3,_⟩<;>rw[i3]<;>simp only[bs,Jc,zM,K2,zK]<;>exact⟨_,_,rfl,rfl,eG⟩
 ·rw[s1,i1]
  simp only[bs,K2,zK];exact⟨_,_,rfl,rfl,eG⟩
theorem zEu(x0:SPr)(x1:zC)(x2:Mx)(x3:Mx)(v0:zMD x0)(v1:zSk x1)(v2:VL (VL VI) x2)(v3:VL (VL VI) x3)
  (h:zBg x0→zFS x1→S2 x2→S2 x3→ ∃g k,zOi x0 x1 x2 x3=ud (g,k)∧zLT x0 x1 x2 x3=ud (g,k)∧S2 g):zRD x0 x1 x2 x3=ud uf:=by
 unfold zRD;rw[zFT v0 (by decide) (by decide),bs];rcases zEY (c:=zJ8 x0) (b:=1048576) (by decide) (by decide)with e|⟨e,a0,b0,w0⟩<;>rw[e]
 ·rfl
 rw[zM,zPx v1 a0 b0,bs];rcases zEY (c:=zPw x1) a0 b0 with e|⟨e,a1,b1,w1⟩<;>rw[e]
 ·rfl
 rw[zM,zCd v2 a1 b1,bs];rcases zEY (c:=c2 x2) a1 b1 with e|⟨e,a2,b2,w2⟩<;>rw[e]
 ·rfl
 rw[zM,zCd v3 a2 b2,bs];rcases zEY (c:=c2 x3) a2 b2 with e|⟨e,a3,b3,w3⟩<;>rw[e]
 ·rfl
 have s0:zBg x0:=zBg.of w0;have s1:zFS x1:=zFS.of w1;have s2:S2 x2:=w2;have s3:S2 x3:=w3;obtain⟨g,k,hs,hi,sg⟩:=h s0 s1 s2 s3;have t0:=zMN s0;have q1:=zKV (x:=x1.zJ);have w1':=w1;simp only[zPw]at w1';have q2:=zFW (x:=x2);have q3:=zFW (x:=x3);have qg:=zFW (x:=g);have sg':=sg;simp only[S2]at sg';rw[zM,zFU s0,bs,zPy s1,bs,zCe s2,bs,zCe s3,bs];simp only[bs];rw[hs,bs,hi,bs];simp only
 rw[kE sg,bs];simp only[beq_self_eq_true,Jc,zM,bne_self_eq_false];rw[zFV s0,bs,Jc,zM,zPz s1,bs,Jc,zM,kE s2,bs,beq_self_eq_true,Jc,zM,kE s3,bs,beq_self_eq_true,Jc,zM,zCp s0 (by decide) (by decide),bs];simp only
 rw[zKW s1 (by omega) (by omega),bs];simp only
 rw[jB s2 (by omega) (by omega),bs];simp only
 rw[jB s3 (by omega) (by omega),bs];simp only
 rw[uh (by omega),zM,bs,Jc,zM];rw[jB sg (by decide) (by omega),bs];simp only
 rw[zJ7 sg (by decide) (by omega),bs,uh (by omega),zM,bne_self_eq_false,zM,bs];simp only
 rw[kE sg,bs,beq_self_eq_true,Jc,zM,bne_self_eq_false,zM,bs,uh (by omega),zM,bne_self_eq_false,zM]
theorem zDa(x0:SPr)(x1:zC)(x2:Mx)(x3:Mx)(v0:zMD x0)(v1:zSk x1)(v2:VL (VL VI) x2)(v3:VL (VL VI) x3):zRD x0 x1 x2 x3=ud uf:=
 zEu x0 x1 x2 x3 v0 v1 v2 v3 zCZ
end Go.Pl
