/- x -/
import Derived.Test.YtchnmobojdcikaaGreatCPlA
import Derived.Test.YtchnmobojdcikaaGreatCWF
open List renaming replicate→J1,getD_eq_getElem?_getD→J2,getElem?_eq_getElem→J5,append_nil→J9,length_append→Ja,getElem?_append_right→Jb,replicate_append_replicate→Jd,append_assoc→Jh,range→Ji,mem_map→Jj,map_cons→Jl,take_of_length_le→Jm,getElem?_map→Jn,length_map→Jo,mem_cons→Jp,take_left'→Jq,mem_iff_getElem→Jt,nil_append→Ju,replicate_succ→Jv,mem_append→Jw,eq_nil_of_length_eq_zero→Jy,reverse_reverse→K0,drop_left'→K1,length_cons→K2,getElem_mem→K3,getElem?_append_left→K5,getElem?_replicate→K7,length_replicate→K8,cons_append→K9,drop_append_of_le_length→Kg,ext_getElem?→Kk,length_take→Kn,take_zero→Ko,getElem?_eq_none→Ku,range_succ→Kv,take_succ_cons→Ky,drop_replicate→L4,length_drop→Lb,mem_range→Lf,getElem?_drop→Lh,map_append→Lp,replicate_zero→Lu,replicate_succ'→Lv,reverse_cons→Hb,length_range→Hj,getD_cons_zero→Hk,foldl_cons→Hv,drop_zero→Hw,foldl_append→G3,getElem?_take_of_lt→G6,drop_eq_getElem_cons→G8,drop_of_length_le→Ga,map_congr_left→Gv,map_nil→U2,length_nil→U5,getElem?_replicate_of_lt→U6,flatten_cons→U8,map_map→Ud,flatMap_append→Ue,mem_of_mem_head?→Um,eq_of_mem_replicate→Uv,range_succ_eq_map→Q5,set_append_right→Qh,take→Qo,cons→Qt,mem_flatten→Ja1,length→Ja2,getElem?_cons_succ→Ja6
open Int renaming toNat_natCast→J6,mul_emod→Jk,emod_emod→Jr,add_emod→Jx,emod_eq_of_lt→Jz,emod_lt_of_pos→Kh,zero_add→Kw,emod_nonneg→Kz,natCast_add→Lj,mul_one→Lq,add_zero→Lw,mul_zero→H3,one_mul→Hc,toNat_zero→Hy,zero_mul→Ge,sub_emod→Gf,add_emod_right→Ui,natCast_mul→Uk,zero_emod→Q9,toNat_of_nonneg→Qa,add_emod_emod→Ja7
open Bool renaming not_true→J7
open Nat renaming zero_add→J8,le_refl→Jf,lt_or_ge→Jg,mul_le_mul→K6,zero_le→Kb,mul_le_mul_right→Kj,sub_self→Kl,succ_mul→L5,add_sub_cancel_left→L6,add_assoc→Lx,min_eq_left→H6,min_eq_right→G1,sub_zero→Gw,le_mul_of_pos_right→Qe,add_zero→Qm,lt_of_not_le→Qr,lt_irrefl→Jas
open Option renaming some→Km
open Prod renaming mk→Uq
open Option renaming some→iz,none→iA
open Bool renaming true→iB,false→iC
namespace Go.Pl
open Go Go.Ab Go.Wk Go.Pc
theorem zPr{a b:List Int}(ha:a.length≤1000)(hb:b.length≤1000):f_z [a,b]=iz (a++b):=by grind[zA7]
theorem zJ1{v:Int}{k:Nat}(hk:k≤1000):∀d c:Nat,c≤k→(c=0→k=0)→k-c≤d→zG zGB (J1 c v++J1 (k-c) 0,(c:Int))=iz (J1 k v):=by
 intro d
 induction d with
 |zero=>
  intro c h1 _ h3;obtain rfl:c=k:=by omega
  rw[yV];unfold zGB;simp
 |succ d ih=>
  intro c h1 h2 h3
  by_cases hc:c=k
  ·grind
  ·have hl:(J1 c v++J1 (k-c) (0:Int)).length=k:=by simp;omega
   have s1:zO (J1 c v++J1 (k-c) (0:Int)) (c:Int) (k:Int)=iz (((J1 c v++J1 (k-c) (0:Int)).drop c).take (k-c)):=by
    unfold zO
    simp_all
   have s2:zO (J1 c v++J1 (k-c) (0:Int)) 0 (c:Int)=iz (J1 c v):=by
    unfold zO
    simp_all
   have e1:(J1 c v).take (k-c)=J1 (min (k-c) c) v:=by simp
   have e2:vF (J1 c v++J1 (k-c) (0:Int)) c (J1 (min (k-c) c) v)=J1 (c+min c (k-c)) v++J1 (k-(c+min c (k-c))) 0:=by
    unfold vF;rw[Jq (by simp),K8,Nat.min_comm (k-c) c,Jd,List.drop_append,K8,Ga (by rw[K8];omega),Ju,L4]
    congr 2;omega
   have hb:zGB (J1 c v++J1 (k-c) 0,(c:Int))=iz (.inl (J1 (c+min c (k-c)) v++J1 (k-(c+min c (k-c))) 0,((c+min c (k-c):Nat):Int))):=by
    unfold zGB;simp only
    rw[hl,yM (by omega),zK,s1,bs,s2,bs,K8];simp only[J6];rw[e1,e2,←Lj,zI (by omega) (by omega),bs]
   rw[yV,hb];exact ih (c+min c (k-c)) (by omega) (by omega) (by omega)
theorem zN2{v:Int}{k:Nat}(hk:k≤30):f_A [v] (k:Int)=iz (J1 k v):=by
 have key:∀k:Nat,k<31→zTU 1 (IntKind.wrap .u64 (k:Int))=iz (0,(k:Int))∧yB (IntKind.wrap .i64 (k:Int))=iz k:=by decide+kernel
 obtain⟨k1,k2⟩:=key k (by omega);unfold f_A;rw[iD (by omega),zL,zSr k1,bs];simp only[k2,bs];rw[show decide ((0:Int)> 0)=iC from rfl,zL,iD (by omega),zL]
 by_cases h0:k=0
 ·subst h0
  have:=zJ1 (v:=v) (k:=0) (by omega) 0 0 (by omega) (by omega) (by omega);rw[show vF (J1 0 (0:Int)) 0 (([v]:List Int).take ((J1 0 (0:Int)).length-0))=J1 0 v++J1 (0-0) 0 from rfl,show((min ([v]:List Int).length ((J1 0 (0:Int)).length-0):Nat):Int)=((0:Nat):Int)from rfl,this,bs]
 ·have:=zJ1 (v:=v) (k:=k) (by omega) k 1 (by omega) (by omega) (by omega)
  have e1:vF (J1 k (0:Int)) 0 (([v]:List Int).take ((J1 k (0:Int)).length-0))=J1 1 v++J1 (k-1) 0:=by
   unfold vF
   grind
  grind
theorem zQu{O:List Int}{N:Nat}(hO:O.length=N)(hN:N≤100):f_O O=iz ⟨O,gl N (fun _=>J1 N 0),gl N (unC N)⟩:=by
 have gU:∀i,i<N→zG (zQL O) ([],((i+1:Nat):Int))=iz (unC N i):=fun i hi=>by
  have:=zQ (body:=zQL O) (r:=unC N i) (fun j=>(gl j fun j=>tF N (i+1+j),((i+1+j:Nat):Int))) (N-1-i) (fun j hj=>by
   unfold zQL;simp only
   rw[hO,yM (by omega),zK,zAF (by omega) (by omega),bs,zY (by grind),bs,zI (by omega) (by omega),bs,cs,kG (F:=fun j=>tF N (i+1+j))];rfl) (by
   unfold zQL;simp only
   rw[hO,show i+1+(N-1-i)=N from by omega,qD,zL,unC])
  exact this
 have:=zQ (body:=zQM O) (r:=(gl N (fun _=>J1 N 0),gl N (unC N))) (fun i=>(gl i (fun _=>J1 N (0:Int)),gl i (unC N),((i:Nat):Int))) N (fun i hi=>by
  unfold zQM;simp only
  rw[hO,yM hi,zK,yX (by omega),bs,zY (by grind),bs,zI (by omega) (by omega),bs,cs,gU i hi,bs,zY (by rw[xY];simp;omega),bs,bs,kG (F:=unC N),kG (F:=fun _=>J1 N (0:Int))]) (by
  unfold zQM
  grind)
 unfold f_O;rw[zAa (by omega),bs]
 grind
section
variable {n D:Nat}{x:SPr}{m:zC}{T:Mx} (h:zKt n D x m T)
 include h
def exG(n N:Nat)(x:SPr)(m:zC)(T:Mx)(i t q:Nat):List Int:=if q<t then exF n x m T i q else tF N (i+1+q)
def exE(n D:Nat)(x:SPr)(m:zC)(T:Mx)(i t k:Nat):Mx:=if k<i then exC n D x m T k else if k=i then gl (n+D-1-i) (exG n (n+D) x m T i t)else unC (n+D) k
theorem zN3{i t:Nat}:exE n D x m T i t i=gl (n+D-1-i) (exG n (n+D) x m T i t):=by have _:=h;rw[exE,if_neg (by omega),if_pos rfl]
theorem zPs{i t:Nat}:(gl (n+D) (exE n D x m T i t)).set i ((gl (n+D-1-i) (exG n (n+D) x m T i t)).set t (exF n x m T i t))=gl (n+D) (exE n D x m T i (t+1)):=by
 have _:=h;rw[zN0,zN0];refine zBq fun k _=>?_
 by_cases hk:k=i
 ·subst hk
  rw[if_pos rfl,zN3 h];refine zBq fun q _=>?_
  simp only[exG]
  grind
 ·rw[if_neg hk,exE,exE,if_neg hk,if_neg hk]
theorem zIc{i k:Nat}:exE n D x m T i 0 k=if k<i then exC n D x m T k else unC (n+D) k:=by
 have _:=h;rw[exE]
 by_cases h1:k<i
 ·grind
 ·rw[if_neg h1,if_neg h1]
  by_cases h2:k=i
  ·subst h2
   rw[if_pos rfl];rfl
  grind
theorem zSy{i:Nat}(hi:i<n):gl (n+D) (exE n D x m T i (n+D-1-i))=gl (n+D) (exE n D x m T (i+1) 0):=by
 refine zBq fun k _=>?_
 rw[zIc h,exE]
 by_cases h1:k<i
 ·grind
 ·rw[if_neg h1]
  by_cases h2:k=i
  ·subst h2
   rw[if_pos rfl,if_pos (by omega),exC,if_pos hi];exact zBq fun q hq=>by rw[exG,if_pos hq]
  grind
theorem yBO{i:Nat}(hi:i<n){C:List Mx}{w:Int}:zG (zOg T (C,w,(i:Int)) (x.zB.getD i [])) (gl (n+D) (exE n D x m T i 0),((base n i:Nat):Int),0)=iz (gl (n+D) (exE n D x m T i (n-1-i)),((base n (i+1):Nat):Int)):=by
 have h6:=h.hn;have h3:=h.m.d3;have hc:=h.cl i hi;have hb:=zGP n (by omega) i hi;have fy:=tG n (by omega);have:=zQ (body:=zOg T (C,w,(i:Int)) (x.zB.getD i [])) (r:=(gl (n+D) (exE n D x m T i (n-1-i)),((base n (i+1):Nat):Int))) (fun j=>(gl (n+D) (exE n D x m T i j),((base n i+j:Nat):Int),((j:Nat):Int))) (n-1-i) (fun j hj=>by
  have a1:=h.ce i j;have a2:=h.tl (base n i+j);have e:exF n x m T i j=(x.zB.getD i []).getD j []++T.getD (base n i+j) []:=if_pos hj;unfold zOg;simp only
  rw[hc,yM hj,zK,zX [] (by omega),bs,zIb (by omega),bs,zX [] (by rw[h.t];omega),bs,zPr (by omega) (by omega),bs,zN3 h,zIb (by omega),bs,zI (by omega) (by omega),bs,zI (by omega) (by omega),bs,cs,cs,←e,J6,J6,zPs h];rfl) (by
  unfold zOg;simp only
  rw[hc,qD,zL,zJ0 n (by omega) i hi])
 exact this
theorem yBP{i:Nat}(hi:i<n){C:List Mx}{w:Int}:zG (zOh x (C,w,(i:Int)) (m.zE.getD i [])) (gl (n+D) (exE n D x m T i (n-1-i)),0)=iz (gl (n+D) (exE n D x m T (i+1) 0)):=by
 have h6:=h.hn;have h3:=h.m.d3;have ub:=h.m.mat i hi;have:=zQ (body:=zOh x (C,w,(i:Int)) (m.zE.getD i [])) (r:=gl (n+D) (exE n D x m T (i+1) 0)) (fun j=>(gl (n+D) (exE n D x m T i (n-1-i+j)),((j:Nat):Int))) D (fun j hj=>by
  have e:exF n x m T i (n-1-i+j)=J1 n 0++(m.zE.getD i []).getD j []:=by rw[exF,if_neg (by omega),show n-1-i+j-(n-1-i)=j from by omega]
  have hr:=(ub.2 j hj).1;unfold zOh;simp only
  rw[ub.1,yM hj,zK,zX [] (by grind),bs,zIb (by omega),bs,h.o,zI (by omega) (by omega),bs,zI (by omega) (by omega),bs,zI (by omega) (by omega),bs,show(0:Int)=((0:Nat):Int)from rfl,zLI (by omega) (by omega) (by omega),bs,
   show(n:Int)-1-(i:Int)+(j:Int)=((n-1-i+j:Nat):Int)from by omega,zN3 h,zIb (by omega),bs,zI (by omega) (by omega),bs,cs,Lu,J9,←e,J6,J6,zPs h];rfl) (by
  unfold zOh;simp only
  rw[ub.1,qD,zL,show n-1-i+D=n+D-1-i from by omega,zSy h hi])
 exact this
theorem yBQ:zG (zOi x m T) (gl (n+D) (unC (n+D)),((n:Nat):Int),0)=iz (gl (n+D) (exC n D x m T)):=by
 have h6:=h.hn;have h3:=h.m.d3;have fy:=tG n (by omega);have:=zQ (body:=zOi x m T) (r:=gl (n+D) (exC n D x m T)) (fun i=>(gl (n+D) (exE n D x m T i 0),((base n i:Nat):Int),((i:Nat):Int))) n (fun i hi=>by
  unfold zOi;simp only
  rw[h.o,yM hi,zK,zX [] (by rw[h.c];exact hi),bs,yBO h hi,bs,zX [] (by rw[h.m.len];exact hi),bs,yBP h hi,bs,zI (by omega) (by omega),bs,cs]) (by
  unfold zOi;simp only
  rw[h.o,qD,zL]
  congr 2
  refine zBq fun k _=>?_
  rw[zIc h,exC]
  grind)
 have e:gl (n+D) (exE n D x m T 0 0)=gl (n+D) (unC (n+D)):=zBq fun k _=>by rw[zIc h,if_neg (by omega)]
 grind
theorem yBR:zG (zOf x T) (gl (n+D) (fun _=>J1 (n+D) 0),0,0)=iz (gl (n+D) (exP n D x T),((n:Nat):Int)):=by
 have h6:=h.hn;have h3:=h.m.d3;have fy:=tG n (by omega);have:=zQ (body:=zOf x T) (r:=(gl (n+D) (exP n D x T),((n:Nat):Int))) (fun i=>(gl (n+D) (fun k=>if k<i then exP n D x T k else J1 (n+D) 0),((i:Nat):Int),((i:Nat):Int))) n (fun i hi=>by
  have a1:=h.pl i;have a2:=h.tl i;have e:exP n D x T i=x.zJ.getD i []++T.getD i []:=if_pos hi;unfold zOf;simp only
  rw[h.p,yM hi,zK,zX [] (by rw[h.p];exact hi),bs,zX [] (by rw[h.t];omega),bs,zPr (by omega) (by omega),bs,zIb (by omega),bs,zI (by omega) (by omega),bs,bs,cs,←e,J6,zN0]
  grind) (by
  unfold zOf;simp only
  rw[h.p,qD,zL]
  congr 3
  refine zBq fun k _=>?_
  by_cases hk:k<n
  ·grind
  ·rw[if_neg hk,exP,if_neg hk])
 grind
theorem zVK{v:Int}:f_A [v] m.Dim=iz (J1 D v):=by rw[h.m.d];exact zN2 (by have:=h.m.d3;omega)
theorem zSz:f_o x m T=iz (ext n D x m T):=by
 have h6:=h.hn;have h3:=h.m.d3;unfold f_o;rw[zAa (by rw[h.o];omega),bs,zVK h,bs,zY (by rw[h.o];simp;omega),bs,zQu (N:=n+D) (by rw[Ja,h.o];simp) (by omega),bs];simp only
 rw[yBR h,bs,yBQ h,bs];rfl
end
end Go.Pl

namespace Go.Pl
open Go Go.Ab Go.Wk Go.Pc
theorem zId{α:Type}{c:α→Nat}{b:Nat}:∀{xs:List α},(∀x∈xs,c x≤b)→sm c xs≤xs.length*b
 | [],_=>by simp[sm]
 |x::xs,h=>by
  have h1:=zId (xs:=xs) fun y hy=>h y (by simp[hy])
  grind[sm,L5]
theorem zN4{xs:Mx}{b:Nat}(h:∀i,i<xs.length→(xs.getD i []).length≤b)(i:Nat):(xs.getD i []).length≤b:=by grind
theorem zN5{x:SPr}{n:Nat}(ho:x.zA.length=n)(hn:n≤6):zW1 x=iz ((base n n:Nat):Int):=by
 unfold zW1;rw[ho];have key:∀n:Nat,n<7→((rng ((n:Int)-1)).bind fun v1=>(rng ((n:Int)*v1)).bind fun v2=>(xN v2 2).bind fun v3=>(rng ((n:Int)+v3)).bind fun v4=>iz v4)=iz ((base n n:Nat):Int):=by decide+kernel
 grind
theorem zN6{x:SPr}{n:Nat}(ho:x.zA.length=n)(hn:n≤6):zW2 x=iz ((base n n:Nat):Int):=by
 unfold zW2;rw[ho];have key:∀n:Nat,n<7→((rng ((n:Int)+1)).bind fun v1=>(rng ((n:Int)*v1)).bind fun v2=>(xN v2 2).bind fun v3=>iz v3)=iz ((base n n:Nat):Int):=by decide+kernel
 grind
theorem zKt.ofX{x:SPr}{m:zC}{D:Nat}{T:Mx}(hx:qJ x)(hm:zZs x.zA.length m D)(ht:T.length=base x.zA.length x.zA.length)(fc:∀i,(T.getD i []).length≤30):zKt x.zA.length D x m T:=by
 have h6:=hx.n6;refine⟨h6,rfl,hx.pl,hx.cl,fun i hi=>by have:=(hx.tl i hi).2.1;omega,zN4 fun i hi=>?_,fun i=>?_,ht,fc,hm⟩
 ·have:=(hx.tl i (by rw[←hx.pl];exact hi)).1.1.1
  omega
 ·rcases Jg i x.zA.length with g|g
  ·refine zN4 fun j hj=>?_
   have:=((hx.tl i g).2.2 j hj).1.1;omega
  ·have e:x.zB.getD i []=[]:=by rw[J2,Ku (by rw[hx.cl];exact g)];rfl
   grind
theorem zKt.of{x:SPr}{m:zC}{D:Nat}{T:Mx}(hx:qJ x)(hm:MOk x.zA.length m D)(ht:T.length=base x.zA.length x.zA.length)(fc:∀i,(T.getD i []).length≤3):zKt x.zA.length D x m T:=.ofX hx hm.x ht (by grind)
end Go.Pl

namespace Go.Pl
open Go Go.Ab Go.Wk Go.Pc
end Go.Pl

namespace Go.Pl
open Go Go.Ab Go.Wk Go.Pc
theorem zFU{xs:Mx}(h:xs.length≤100000)(hl:∀i,i<xs.length→(xs.getD i []).length≤1000000):f_Y xs=iz xs:=by
 unfold f_Y;rw[tE (body:=zQU xs) xs.length (fun i=>xs.getD i []) (fun i acc hi ha=>by
  unfold zQU;simp only
  rw[yM hi,zK,zX [] hi,bs,wQ (hl i hi),bs,zY (by simp;omega),bs,zI (by omega) (by omega),bs,cs]) (fun acc=>by
  unfold zQU;simp),bs]
 congr 1
 exact(zSt rfl).symm
end Go.Pl

namespace Go.Pl
open Go Go.Ab Go.Wk Go.Pc
end Go.Pl

namespace Go.Pl
open Go Go.Ab Go.Wk Go.Pc
theorem zN7{v:List Int}{k:Nat}(hl:v.length≤1000000)(hk:k<v.length)(h0:∀j,j<k→at0 v j=0)(h1:at0 v k≠0):zWA v=iz (k:Int):=by
 unfold zWA;have:=zQ (body:=zM9 v) (r:=.inr (k:Int)) (fun i=>(i:Int)) k (fun i hi=>by
  unfold zM9 zW9;rw[yM (by omega),zK,yH (by omega),bs,bs,h0 i hi,bne_self_eq_false,zL,zI (by omega) (by omega),bs,cs]) (by
  unfold zM9 zW9;rw[yM hk,zK,yH hk,bs,bs,zA4 h1,zK])
 grind
section
variable {p:Int} (hp:Prime p) {n:Nat} (hn:n≤100000) {R:Mx}{pv:Nat→Nat} (h:Red p n R pv) {v:List Int} (hv:Row p n v)
 include hp hn h
theorem zLQ(hm:R.length≤100000):zWB R=iz (gl R.length fun i=>(pv i:Int)):=by
 have h7:=hp.pos;unfold zWB;rw[tE (body:=zMA R) R.length (fun i=>(pv i:Int)) (fun i acc hi ha=>by
  have hr:=h.row i hi;have h1:=h.one i hi;unfold zMA;simp only
  rw[yM hi,zK,zX [] hi,bs,zN7 (k:=pv i) (by rw[hr.1];omega) (by grind) (fun j hj=>h.low i hi j hj) (by grind),bs,zY (by simp;omega),bs,zI (by omega) (by omega),bs,cs]) (fun acc=>by
  unfold zMA;simp),bs]
 include hv
theorem zS0{i:Nat}(hi:i<R.length):vA p n (cl p n R pv v i) (0-at0 (cl p n R pv v i) (pv i)) (R.getD i [])=cl p n R pv v (i+1):=by
 have _:=hp;have _:=hn;have _:=h;have _:=hv;have _:=hi;rw[cl];refine yD fun j _=>?_
 generalize at0 (cl p n R pv v i) (pv i)=a
 generalize at0 (R.getD i []) j=b
 rw[Int.sub_mul,Int.sub_mul,Ge];have e:at0 (cl p n R pv v i) j+(p*b-a*b)=at0 (cl p n R pv v i) j+(0-a*b)+p*b:=by omega
 simp_all
theorem zDq{c:Int}(hm:R.length≤100000):zUw (zT.mk p c R) v=iz (cl p n R pv v R.length):=by
 have h7:=hp.pos;have:=zQ (body:=zJG (zT.mk p c R) (gl R.length fun i=>(pv i:Int))) (r:=cl p n R pv v R.length) (fun i=>(cl p n R pv v i,(i:Int))) R.length (fun i hi=>by
  have hr:=zBL hp hn h hv i;have ha:=hr.2 (pv i) (h.lt i hi);unfold zJG;simp only
  rw[xY,yM hi,zK,zIb hi,bs,zX [] hi,bs,yH (by rw[hr.1];exact h.lt i hi),bs,zI (by omega) (by omega),bs,zBe hp hr (h.row i hi) (by omega) (by omega),bs,zI (by omega) (by omega),bs,cs,zS0 hp hn h hv hi]) (by
  unfold zJG;simp)
 unfold zUw;rw[zAa (by rw[hv.1];omega),bs];simp only
 rw[zLQ hp hn h hm,bs];have e:zG (zJG (zT.mk p c R) (gl R.length fun i=>(pv i:Int))) (v,0)=iz (cl p n R pv v R.length):=this;rw[e,bs]
theorem zPt:(∀j,j<n→at0 (cl p n R pv v R.length) j=0)↔Sp p n R v:=by
 have h7:=hp.pos;obtain⟨cf,eO⟩:=zGO hp hn h hv R.length (Jf _);have hr:=zBL hp hn h hv R.length;have hs:Sp p n R (mkv n fun j=>S R.length fun k=>cf k*ent R k j):=⟨cf,by grind[zS]⟩;constructor
 ·intro h0
  refine qV (v:=mkv n fun _=>0) (w:=mkv n fun j=>S R.length fun k=>cf k*ent R k j) (k:=-1) (zBA fun j hj=>by rw[zS hj];rfl) hs fun j hj=>?_
  have h1:=eO j hj;rw[h0 j hj]at h1;rw[zS hj,zS hj]
  generalize (S R.length fun k=>cf k*ent R k j)=s at h1 ⊢
  have h2:(at0 v j+s)%p=0:=by rw[←h1];rfl
  have h3:(at0 v j-(0+ -1*s))%p=0:=by grind
  exact Int.emod_eq_emod_iff_emod_sub_eq_zero.2 h3
 ·intro fM j hj
  have h1:Sp p n R (cl p n R pv v R.length):=qV (k:=1) fM hs fun j hj=>by rw[eO j hj,zS hj,Hc]
  have h2:=h.expand h1 j hj;rw[wK (g:=fun _=>0) (fun i hi=>by rw[zNw hp hn h hv R.length (Jf _) i hi,Ge]),kD]at h2;have h3:=hr.2 j hj;rw[Jz h3.1 (by omega)]at h2;rw[h2];rfl
end
end Go.Pl

namespace Go.Pl
open Go Go.Ab Go.Wk Go.Pc
section
variable {p:Int} (hp:1<p) {n:Nat}{R R':Mx}{pv pv':Nat→Nat} (h:Red p n R pv) (h':Red p n R' pv') (hs:∀i,i<R.length→Sp p n R' (R.getD i []))
 include hp h h' hs
theorem Red.lt_of{i i2 k k2:Nat}(hii:i<i2)(fR:i2<R.length)(hk:k<R'.length)(e:pv' k=pv i)(e2:pv' k2=pv i2):k<k2:=by
 have _:=hp;have _:=hs;have h1:=h.mono i i2 hii fR;refine Classical.byContradiction fun hn=>?_
 rcases Jg k2 k with g|g
 ·have:=h'.mono k2 k g hk;omega
 grind
theorem Red.low_in:∀i,i<R.length→ ∃k,k<R'.length∧pv' k=pv i∧i≤k:=by
 intro i
 induction i with
 |zero=>intro hi;obtain⟨k,hk,e⟩:=h.piv_in hp h' hs hi;grind
 |succ i ih=>
  intro hi;obtain⟨k,hk,e,hik⟩:=ih (by omega);obtain⟨k2,ca,e2⟩:=h.piv_in hp h' hs hi;have:=h.lt_of hp h' hs (by simp) hi hk e e2
  grind
theorem Red.le_of:R.length≤R'.length:=by
 rcases Nat.eq_zero_or_pos R.length with g|g
 ·omega
 ·obtain⟨k,hk,_,hik⟩:=h.low_in hp h' hs (R.length-1) (by omega)
  omega
end
end Go.Pl

namespace Go.Pl
open Go Go.Ab Go.Wk Go.Pc
end Go.Pl

namespace Go.Pl
open Go Go.Ab Go.Wk Go.Pc
theorem zC2{u v:List Int}{j:Nat}:at0 (u++v) j=if j<u.length then at0 u j else at0 v (j-u.length):=by grind
theorem zBr{v:List Int}{c j:Nat}:at0 (v.drop c) j=at0 v (c+j):=by simp
theorem zDr{v:List Int}{c j:Nat}(h:j<c):at0 (v.take c) j=at0 v j:=by grind
theorem zGQ{f:Nat→Int}(t:Nat):∀d:Nat,S (t+d) f=S t f+S d (fun i=>f (t+i))
 |0=>by simp[S]
 |d+1=>by rw[←Lx];simp only[S];rw[zGQ t d];omega
theorem zZx{f:Nat→Int}{t n:Nat}(ht:t≤n)(h:∀i,i<t→f i=0):S n f=S (n-t) (fun i=>f (t+i)):=by
 have e:n=t+(n-t):=by omega
 conv=>lhs;rw[e,zGQ,wK (g:=fun _=>0) h,kD]
 omega
theorem zVL{f:Nat→Int}{t n:Nat}(ht:t≤n)(h:∀i,t≤i→i<n→f i=0):S n f=S t f:=by
 have e:n=t+(n-t):=by omega
 conv=>lhs;rw[e,zGQ,wK (f:=fun i=>f (t+i)) (g:=fun _=>0) (by grind),kD]
 omega
theorem xR{F:Nat→List Int}{m i:Nat}(h:i<m):(gl m F).getD i []=F i:=by grind
def ur(N i:Nat):List Int:=mkv N fun j=>if j=i then 1 else 0
def wd(N:Nat)(A:Mx):Mx:=gl N fun i=>A.getD i []++ur N i
def Gr(p:Int)(c N:Nat)(A:Mx)(u:List Int):Prop:=∀j,j<c→at0 u j%p=(S N fun k=>at0 u (c+k)*ent A k j)%p
section
variable {p:Int} (hp:1<p) {c N:Nat}{A:Mx} (hA:∀i,i<N→Row p c (A.getD i []))
 include hA
theorem zC3:(wd N A).length=N:=by have _:=hA;exact xY
theorem zGR{i j:Nat}(hi:i<N)(hj:j<c):ent (wd N A) i j=ent A i j:=by rw[ent,wd,xR hi,zC2,(hA i hi).1,if_pos hj]
theorem zCk{i l:Nat}(hi:i<N)(hl:l<N):ent (wd N A) i (c+l)=if l=i then 1 else 0:=by
 rw[ent,wd,xR hi,zC2,(hA i hi).1,if_neg (by omega),L6,ur,zS hl]
 include hp
theorem zS1{i:Nat}(hi:i<N):Row p (c+N) ((wd N A).getD i []):=by
 refine⟨by rw[wd,xR hi,Ja,(hA i hi).1,ur,yE],fun j hj=>?_⟩;rcases Jg j c with g|g
 ·have:=(hA i hi).2 j g
  have e:=zGR hA hi g
  grind
 ·have e:=zCk hA (l:=j-c) hi (by omega)
  grind
theorem yBS{u:List Int}:Sp p (c+N) (wd N A) u↔Gr p c N A u:=by
 have _:=hp;constructor
 ·rintro⟨cf,eO⟩ j hj
  rw[zC3 hA]at eO;rw[←eO j (by omega)];refine zAP fun k hk=>?_
  have h1:=eO (c+k) (by omega);rw[zB8 (k:=k) hk (fun i hi gf=>by rw[zCk hA hi hk,if_neg (Ne.symm gf),H3]),zCk hA hk hk,if_pos rfl,Lq]at h1;rw[zGR hA hk hj,Jk,h1,←Jk]
 ·intro h
  refine⟨fun k=>at0 u (c+k),fun j hj=>?_⟩;rw[zC3 hA];rcases Jg j c with g|g
  ·rw[h j g]
   refine congrArg (· %p) (wK fun k hk=>?_);rw[zGR hA hk g]
  ·obtain⟨l,rfl⟩:∃l,j=c+l:=⟨j-c,by omega⟩
   rw[zB8 (k:=l) (by omega) (fun i hi gf=>by rw[zCk hA hi (by omega),if_neg (Ne.symm gf),H3]),zCk hA (by omega) (by omega),if_pos rfl,Lq]
variable {W:Mx}{pv:Nat→Nat} (hW:Red p (c+N) W pv) (hs:jW p (c+N) W (wd N A))
 include hW
theorem zZy:∃t,t≤W.length∧(∀i,i<t→pv i<c)∧ ∀i,t≤i→i<W.length→c≤pv i:=by
 have _:=hA;have _:=hp;obtain⟨t,ht,eR⟩:=zEa (p:=fun t=>W.length≤t∨c≤pv t) ⟨W.length,.inl (Jf _)⟩;have gH:∀i,i<t→i<W.length∧pv i<c:=fun i hi=>by have:=eR i hi;exact⟨Qr fun h=>this (.inl h),Qr fun h=>this (.inr h)⟩
 refine⟨t,Nat.le_of_not_lt fun h=>?_,fun i hi=>(gH i hi).2,fun i hi fR=>?_⟩
 ·have:=(gH W.length h).1;omega
 ·rcases ht with h|h
  ·omega
  ·rcases Jg t i with g|g
   ·have:=hW.mono t i g fR;omega
   ·rw[show i=t from by omega];exact h
def nul(c t:Nat)(W:Mx):Mx:=gl (W.length-t) fun i=>(W.getD (t+i) []).drop c
def lft(c t:Nat)(W:Mx):Mx:=gl t fun i=>(W.getD i []).take c
 omit hp hA hW in
theorem zFj{t i j:Nat}(hi:t+i<W.length):ent (nul c t W) i j=ent W (t+i) (c+j):=by
  rw[ent,nul,xR (by omega),zBr]
 omit hp hA hW in
theorem zFk{t i j:Nat}(hi:i<t)(hj:j<c):ent (lft c t W) i j=ent W i j:=by rw[ent,lft,xR hi,zDr hj]
variable {t:Nat} (ht:t≤W.length) (h1:∀i,i<t→pv i<c) (h2:∀i,t≤i→i<W.length→c≤pv i)
 include ht h1 h2
theorem zVM:Red p N (nul c t W) (fun i=>pv (t+i)-c):=by
 have _:=hp;have _:=hA;have _:=h1;have _:=ht;have hl:(nul c t W).length=W.length-t:=xY;have hpc:∀i,i<W.length-t→c≤pv (t+i):=by grind
 refine⟨fun i hi=>?_,fun i hi=>?_,fun i hi=>?_,fun i hi j hj=>?_,fun i k hi hk gf=>?_,fun i j gV hj=>?_⟩
 ·rw[hl]at hi
  have hr:=hW.row (t+i) (by omega);refine⟨by rw[nul,xR hi,Lb,hr.1];omega,fun j hj=>?_⟩;have:=hr.2 (c+j) (by omega)
  grind[nul]
 ·rw[hl]at hi
  have:=hW.lt (t+i) (by omega)
  grind
 ·rw[hl]at hi
  rw[zFj (by omega),show c+(pv (t+i)-c)=pv (t+i)from by grind];exact hW.one _ (by omega)
 ·rw[hl]at hi
  rw[zFj (by omega)];exact hW.low _ (by omega) _ (by omega)
 ·rw[hl]at hi hk
  rw[zFj (by omega),show c+(pv (t+i)-c)=pv (t+i)from by grind];exact hW.off _ _ (by omega) (by omega) (by omega)
 ·rw[hl]at hj
  have:=hW.mono (t+i) (t+j) (by omega) (by omega)
  grind
 include hs
theorem zVN{u:List Int}:Sp p (c+N) W u↔Gr p c N A u:=by have _:=hW;have _:=ht;have _:=h1;have _:=h2;exact hs.iff.trans (yBS hp hA)
theorem zZz{x:List Int}:Sp p N (nul c t W) x↔ ∀j,j<c→(S N fun k=>at0 x k*ent A k j)%p=0:=by
 have hl:(nul c t W).length=W.length-t:=xY;constructor
 ·rintro⟨cf,eO⟩ j hj
  rw[hl]at eO;have e1:(S N fun k=>at0 x k*ent A k j)%p=(S N fun k=>(S (W.length-t) fun i=>cf i*ent (nul c t W) i k)*ent A k j)%p:=by grind[zAP,Jk]
  have e2:(S N fun k=>(S (W.length-t) fun i=>cf i*ent (nul c t W) i k)*ent A k j)=S (W.length-t) fun i=>cf i*S N fun k=>ent W (t+i) (c+k)*ent A k j:=by
   rw[wK (g:=fun k=>S (W.length-t) fun i=>cf i*(ent W (t+i) (c+k)*ent A k j)) (fun k hk=>by rw[←zL9];exact wK (by grind[zFj])),zHP]
   grind[zBo]
  have e3:(S (W.length-t) fun i=>cf i*S N fun k=>ent W (t+i) (c+k)*ent A k j)%p=(S (W.length-t) fun _=>0)%p:=zAP fun i hi=>by have h:=(zVN hp hA hW hs ht h1 h2).1 (qU (p:=p) (n:=c+N) (R:=W) (i:=t+i) (by omega)) j hj;have hz:=hW.low (t+i) (by omega) j (by grind);simp only[ent]at hz;rw[hz]at h;rw[Jk,show(S N fun k=>ent W (t+i) (c+k)*ent A k j)%p=0 from h.symm,H3]
  rw[e1,e2,e3,kD];rfl
 ·intro h0
  let u:List Int:=mkv (c+N) fun j=>if j<c then 0 else at0 x (j-c)
  have ck:∀j,j<c→at0 u j=0:=fun j hj=>by rw[zS (by omega),if_pos hj]
  have pJ:∀k,k<N→at0 u (c+k)=at0 x k:=fun k hk=>by rw[zS (by omega),if_neg (by omega),L6]
  have hg:Gr p c N A u:=fun j hj=>by rw[ck j hj,wK (g:=fun k=>at0 x k*ent A k j) (by grind),h0 j hj];rfl
  have hx:=hW.expand ((zVN hp hA hW hs ht h1 h2).2 hg);refine⟨fun i=>at0 u (pv (t+i)),fun j hj=>?_⟩;have h3:=hx (c+j) (by omega);rw[pJ j hj,zZx ht (by grind)]at h3;rw[hl,h3];exact congrArg (· %p) (wK (by grind[zFj]))
theorem zVO:Red p c (lft c t W) pv:=by
 have _:=hp;have _:=hA;have _:=hs;have _:=h2;have hl:(lft c t W).length=t:=xY;refine⟨fun i hi=>?_,by grind,fun i hi=>?_,fun i hi j hj=>?_,fun i k hi hk gf=>?_,fun i j gV hj=>hW.mono i j gV (by omega)⟩
 ·rw[hl]at hi
  have hr:=hW.row i (by omega);refine⟨by rw[lft,xR hi,Kn,hr.1];omega,fun j hj=>?_⟩;rw[lft,xR hi,zDr hj];exact hr.2 j (by omega)
 ·rw[hl]at hi
  rw[zFk hi (h1 i hi)];exact hW.one _ (by omega)
 ·rw[hl]at hi
  have:=h1 i hi;rw[zFk hi (by omega)];exact hW.low _ (by omega) _ hj
 ·rw[hl]at hi hk
  rw[zFk hk (h1 i hi)];exact hW.off _ _ (by omega) (by omega) gf
theorem zZ0(fL:A.length=N):jW p c (lft c t W) A:=by
 have hl:(lft c t W).length=t:=xY;constructor
 ·intro i hi
  rw[hl]at hi;have hg:=(zVN hp hA hW hs ht h1 h2).1 (qU (p:=p) (n:=c+N) (R:=W) (i:=i) (by omega));refine⟨fun k=>ent W i (c+k),fun j hj=>?_⟩;rw[fL,lft,xR hi,zDr hj];exact(hg j hj).symm
 ·intro k hk
  rw[fL]at hk;obtain⟨cf,eO⟩:=hs.2 k (by rw[zC3 hA];exact hk);refine⟨cf,fun j hj=>?_⟩;have h3:=eO j (by omega);have e:=zGR hA hk hj;simp only[ent]at e;rw[e,zVL ht (fun i g1 g2=>by rw[hW.low i g2 j (by grind),H3])]at h3;rw[hl,←h3];exact congrArg (· %p) (by grind[wK,zFk])
end
end Go.Pl

namespace Go.Pl
open Go Go.Ab Go.Wk Go.Pc
theorem zFl{v:List Int}(hl:v.length≤1000000):IsB (f_L v) (∀i,i<v.length→at0 v i=0):=by
 refine sC v.length (fun i=>at0 v i=0) rfl (fun i hi _=>?_) ?_
 ·refine vZ (o:=iz (at0 v i==0)) (IsB.of_bool (by simp)) (by omega) ?_
  unfold zMo;rw[yM hi,zK,yH hi,bs,bs];rfl
 ·unfold zMo
  simp
end Go.Pl

namespace Go.Pl
open Go Go.Ab Go.Wk Go.Pc
end Go.Pl

namespace Go.Pl
open Go Go.Ab Go.Wk Go.Pc
section
variable {n D:Nat}{m:zC} (hm:MOk n m D) (hn:n≤14)
 include hm hn
def yBT(m:zC)(D:Nat)(rows:Mx):Prop:=∀i,i<rows.length→Row m.Prime D (rows.getD i [])
theorem zKu{rows:Mx}(hl:rows.length≤1048576):IsB (zUm m rows) (yBT m D rows):=by
 have _:=hn;have h3:=hm.d3;refine sC (body:=zI4 m rows) rows.length (fun i=>Row m.Prime D (rows.getD i [])) rfl (fun i hi _=>?_) ?_
 ·refine vZ (zDo hm.p (D:=D) (by omega)) (by omega) ?_
  unfold zI4;rw[yM hi,zK,zX [] hi,bs,hm.d]
 ·unfold zI4
  simp
end
end Go.Pl

namespace Go.Pl
open Go Go.Ab Go.Wk Go.Pc
structure Nul (p:Int) (c N:Nat) (A W:Mx) (pv:Nat→Nat) (t:Nat):Prop where
 row:∀i,i<N→Row p c (A.getD i [])
 len:A.length=N
 red:Red p (c+N) W pv
 sp:jW p (c+N) W (wd N A)
 le:t≤W.length
 lo:∀i,i<t→pv i<c
 hi:∀i,t≤i→i<W.length→c≤pv i
section
variable {p:Int} (hp:Prime p) {c N:Nat} (gw:c+N≤100000) {A W:Mx}{pv:Nat→Nat}{t:Nat}
 include hp gw
theorem Nul.get(hr:∀i,i<N→Row p c (A.getD i []))(hl:A.length=N):∃W pv t,Nul p c N A W pv t∧f_v p (wd N A)=iz W∧f_g p (wd N A)=iz W:=by have h7:=hp.pos;obtain⟨W,pv,r1,r2,r3,r4⟩:=zA9 hp (n:=c+N) gw (rows:=wd N A) (by rw[zC3 hr];omega) (fun i hi=>zS1 (by omega) hr (by rwa [zC3 hr]at hi));obtain⟨t,t1,t2,t3⟩:=zZy (by omega) hr r3;exact⟨W,pv,t,⟨hr,hl,r3,r4,t1,t2,t3⟩,r1,r2⟩
variable (h:Nul p c N A W pv t)
 include h
theorem Nul.nred:Red p N (nul c t W) (fun i=>pv (t+i)-c):=by have _:=gw;have h7:=hp.pos;exact zVM (by omega) h.row h.red h.le h.lo h.hi
theorem Nul.nsp{x:List Int}:Sp p N (nul c t W) x↔ ∀j,j<c→(S N fun k=>at0 x k*ent A k j)%p=0:=by have _:=gw;have h7:=hp.pos;exact zZz (by omega) h.row h.red h.sp h.le h.lo h.hi
theorem Nul.full:W.length=N:=by
 have h7:=hp.pos;have g1:W.length≤(wd N A).length:=zIa hp (n:=c+N) gw (by rw[zC3 h.row];omega) (fun i hi=>zS1 (by omega) h.row (by rwa [zC3 h.row]at hi)) h.red h.sp;rw[zC3 h.row]at g1;have hl:(gl W.length fun i=>(W.getD i []).drop c).length=W.length:=xY;have hR:∀i,i<W.length→Row p N ((gl W.length fun i=>(W.getD i []).drop c).getD i []):=fun i hi=>by have hr:=h.red.row i hi;rw[xR hi];refine⟨by rw[Lb,hr.1];omega,fun j hj=>?_⟩;rw[zBr];exact hr.2 (c+j) (by omega)
 obtain⟨R3,pv3,_,_,g3,g4⟩:=zA9 hp (n:=N) (by omega) (rows:=gl W.length fun i=>(W.getD i []).drop c) (by omega) (by grind);have g5:=zIa hp (n:=N) (by omega) (by omega) (by grind) g3 g4;have eI:(gl N (ur N)).length=N:=xY;have ut:∀i j,i<N→j<N→ent (gl N (ur N)) i j=if j=i then 1 else 0:=fun i j hi hj=>by rw[ent,xR hi,ur,zS hj]
 have eE:Red p N (gl N (ur N)) (fun i=>i):=by
  refine⟨fun i hi=>?_,fun i hi=>by omega,fun i hi=>?_,fun i hi j hj=>?_,by grind,fun i j gV hj=>gV⟩
  ·rw[eI]at hi
   rw[xR hi];refine⟨yE _ _,fun j hj=>?_⟩
   grind
  all_goals grind
 have g6:=eE.le_of (by omega) g3 (fun i hi=>by rw[eI]at hi;refine g4.iff.2 ?_;obtain⟨cf,eO⟩:=h.sp.2 i (by rw[zC3 h.row];exact hi);refine⟨cf,fun j hj=>?_⟩;have h1:=eO (c+j) (by omega);have h2:=zCk h.row hi hj;simp only[ent]at h2;rw[h2]at h1;have h3:=ut i j hi hj;simp only[ent]at h3;rw[h3,hl,←h1];exact congrArg (· %p) (wK (by grind)))
 omega
 omit h in
theorem zN8{N:Nat}(hN:N≤100000):f_x (N:Int)=iz (gl N (ur N)):=by
  have _:=hp;have _:=gw;unfold f_x;rw[tE (body:=zI3 (N:Int)) N (ur N) (fun i acc hi ha=>by
    unfold zI3;simp only
    rw[yM hi,zK,yX (by omega),bs,vY,K7,if_pos hi,bs,J6,uO,kE,zY (by simp;omega),bs,zI (by omega) (by omega),bs,cs];rfl) (fun acc=>by
    unfold zI3;simp),bs]
 omit h in
theorem zJ2(hr:∀i,i<N→Row p c (A.getD i []))(hl:A.length=N):zUl p A=f_v p (wd N A):=by
  unfold zUl;rw[hl,zN8 hp gw (by omega),bs,tE (body:=zM0 A (gl N (ur N))) N (fun i=>A.getD i []++ur N i) (fun i acc hi ha=>by
    unfold zM0;simp only
    rw[hl,yM hi,zK,zX [] (by omega),bs,wQ (by rw[(hr i hi).1];omega),bs,zIb hi,bs,zY (by rw[(hr i hi).1,ur,yE];omega),bs,zY (by simp;omega),bs,zI (by omega) (by omega),bs,cs]) (fun acc=>by
    unfold zM0
    grind),bs]
  grind[wd]
theorem zQv:zG (zJE (c:Int) W) ([],0)=iz (nul c t W):=by
 have hf:=h.full hp gw;have eK:=h.le;have:=zQ (body:=zJE (c:Int) W) (r:=nul c t W) (fun i=>(gl (i-t) (fun k=>(W.getD (t+k) []).drop c),(i:Int))) W.length (fun i hi=>by
  have hr:=h.red.row i hi;have h1:=h.red.one i hi;have gH:=h.red.lt i hi;have cW:=zGN (n:=c+N) hr.1 (by omega) gH (h.red.low i hi) (by grind);unfold zJE;simp only
  rw[yM hi,zK,zX [] hi,bs,cW,bs];rcases Jg i t with g|g
  ·have:=h.lo i g
   rw[iD (by omega),zL,zI (by omega) (by omega),bs,cs,show i-t=0 from by omega,show i+1-t=0 from by omega]
  ·have:=h.hi i g hi
   have e:zO (W.getD i []) (c:Int) ((W.getD i []).length:Int)=iz ((W.getD i []).drop c):=by unfold zO;rw[if_pos (by grind),J6,J6,Jm (by rw[Lb];omega)]
   rw[iE (by omega),zK,bs,e,bs,wQ (by rw[Lb,hr.1];omega),bs,zY (by rw[xY];simp;omega),bs,zI (by omega) (by omega),bs,cs,show i+1-t=(i-t)+1 from by omega,←kG,show t+(i-t)=i from by omega]) (by
  unfold zJE;simp only
  rw[qD,zL];rfl)
 grind
end
end Go.Pl

namespace Go.Pl
open Go Go.Ab Go.Wk Go.Pc
end Go.Pl

namespace Go.Pl
open Go Go.Ab Go.Wk Go.Pc
end Go.Pl

namespace Go.Pl
open Go Go.Ab Go.Wk Go.Pc
theorem zIe{α:Type}{f:α→α}{a:α}(h:f a=a):∀k,iter k f a=a
 |0=>rfl
 |k+1=>by show iter k f (f a)=a;rw[h];exact zIe h k
theorem zS2{p:Int}{D:Nat}{A:List Mx}:∀(v:Vec)(o:Nat)(B:Mx),o+v.length≤A.length→wM p D A (nw o v) B=img (PM p D) (A.drop o) v B
 | [],o,B,_=>by simp[nw,wM,img]
 |a::v,o,B,h=>by
  simp only[K2]at h;have e:A.drop o=A.getD o []::A.drop (o+1):=by grind[G8]
  rw[e];simp only[nw,img];rw[zDG,zHT,zS2 v (o+1) _ (by omega)]
theorem zDs:∀(k o:Nat),nw o (zeros k)=[]
 |0,_=>rfl
 |k+1,o=>by rw[show zeros (k+1)=0::zeros k from rfl];simp only[nw];rw[zDs k];rfl
section
variable {x:SPr}{m:zC}{D:Nat} (h:Pres x) (hm:zZt x.zA.length m D) (hr:zFS x m D)
 include hm
 include h hr
theorem zPu:∀(d k:Nat),k+d=x.zA.length→Rel (PM m.Prime D) (idM D) (suf x k) (m.zE.drop k)
 |0,k,hk=>by rw[vQ (by omega),Ga (by rw[hm.len];omega)];exact rfl
 |d+1,k,mz=>by
  have h6:=h.os.1;have hk:k<x.zA.length:=by omega
  have gm:=hm.len;have e:m.zE.drop k=m.zE.getD k []::m.zE.drop (k+1):=by simp_all
  obtain⟨t1,t2,t3⟩:=h.tl k hk;obtain⟨r1,r2⟩:=hr k hk;have bB:∀v,Exp x.zA v k→wM m.Prime D m.zE (nw 0 v) (idM D)=img (PM m.Prime D) (m.zE.drop (k+1)) (v.drop (k+1)) (idM D):=fun v hv=>by
   have hl:=hv.1.1
   conv=>lhs;rw[zBc hv hk]
   rw[zDF,zDs,Ju,zR,zS2 _ _ _ (by grind),J8]
  rw[yC hk,e];refine⟨?_,fun q c dd hc hd=>?_,zPu d (k+1) (by omega)⟩
  ·grind[pw,lvl,zHT]
  ·rw[Lh]at hc
   have hq:k+1+q<m.zE.length:=by grind
   have aP:c=m.zE.getD (k+1+q) []:=by grind
   have bq:dd=((x.zB.getD k []).getD q []).drop (k+1):=by grind[lvl]
   have:=r2 (k+1+q) (by omega) (by omega);rw[show k+1+q-(k+1)=q from by omega]at this;rw[aP,bq,this,bB _ (t3 q (by omega))]
end
end Go.Pl

namespace Go.Pl
open Go Go.Ab Go.Wk Go.Pc
theorem zBB{p:Int}{c N:Nat}(gw:c+N≤100000){A:Mx}(hr:∀i,i<N→Row p c (A.getD i []))(hl:A.length=N):zUi A=iz (wd N A):=by
 unfold zUi;rw[tE (body:=zMv A) N (fun i=>A.getD i []++ur N i) (fun i acc hi ha=>by
  have h1:=(hr i hi).1;have e:vF (J1 (c+N) (0:Int)) 0 ((A.getD i []).take (((J1 (c+N) (0:Int)).length)-0))=A.getD i []++J1 N 0:=by unfold vF;rw[K8,Jm (l:=A.getD i []) (by omega),Ko,Ju,h1,L4];simp
  have e2:ixO (A.getD i []++J1 N (0:Int)) ((c+i:Nat):Int)=iz 0:=by rw[vY,Jb (by omega),h1,K7,if_pos (by omega)]
  unfold zMv;simp only
  rw[hl,yM hi,zK,zX [] (by omega),bs,h1,←Lj,zI (by omega) (by omega),bs,yX (by omega),bs,←Lj,zI (by omega) (by omega),bs,e,e2,bs,J6,Qh _ _ (by omega),h1,L6,uO,kE,zY (by simp;omega),bs,zI (by omega) (by omega),bs,cs];rfl) (fun acc=>by
  unfold zMv
  grind),bs]
 rfl
end Go.Pl

namespace Go.Pl
open Go Go.Ab Go.Wk Go.Pc
theorem zLR{p:Int}(hp:Prime p){n:Nat}(hn:n≤100000){R:Mx}{pv:Nat→Nat}(h:Red p n R pv):f_v p R=iz R∧f_g p R=iz R:=by
 have h7:=hp.pos;have hl:R.length≤n:=h.len_le;obtain⟨R2,pv2,r1,r2,r3,r4⟩:=zA9 hp hn (rows:=R) (by omega) h.row;have e:=r3.unique (by omega) h r4
 grind
section
variable {p:Int} (hp:Prime p) {c N:Nat} (gw:c+N≤100000) {A W:Mx}{pv:Nat→Nat}{t:Nat}
 include hp gw
theorem zLS(h:Nul p c N A W pv t):zG (zJH (c:Int) W) ([],0)=iz (nul c t W):=by
 have h7:=hp.pos;have hf:=h.full hp gw;have eK:=h.le;have:=zQ (body:=zJH (c:Int) W) (r:=nul c t W) (fun i=>(gl (i-t) (fun k=>(W.getD (t+k) []).drop c),(i:Int))) W.length (fun i hi=>by
  have hr:=h.red.row i hi;have h1:=h.red.one i hi;have e0:zO (W.getD i []) 0 (c:Int)=iz ((W.getD i []).take c):=by unfold zO;rw[if_pos ⟨by omega,by omega,by rw[hr.1];omega⟩,J6,show(0:Int).toNat=0 from rfl,Hw,Gw]
  have fc:((W.getD i []).take c).length=c:=by rw[Kn,hr.1];omega
  have hz:=zFl (v:=(W.getD i []).take c) (by omega);unfold zJH;simp only
  rw[yM hi,zK,zX [] hi,bs,e0,bs];rcases Jg i t with g|g
  ·have gW:=h.lo i g
   rcases hz with⟨_,z⟩|⟨z,_⟩
   ·grind
   ·rw[z,bs,zL,zI (by omega) (by omega),bs,cs,show i-t=0 from by omega,show i+1-t=0 from by omega]
  ·have ej:=h.hi i g hi
   have e:zO (W.getD i []) (c:Int) ((W.getD i []).length:Int)=iz ((W.getD i []).drop c):=by unfold zO;rw[if_pos (by grind),J6,J6,Jm (by rw[Lb];omega)]
   rcases hz with⟨z,_⟩|⟨_,z⟩
   ·rw[z,bs,zK,e,bs,zY (by grind),bs,zI (by omega) (by omega),bs,cs,show i+1-t=(i-t)+1 from by omega,←kG,show t+(i-t)=i from by omega]
   ·refine absurd (fun j hj=>?_) z
    rw[fc]at hj;rw[zDr hj];have:=h.red.low i hi j (by omega);omega) (by
  unfold zJH;simp only
  rw[qD,zL];rfl)
 grind
end
end Go.Pl

namespace Go.Pl
open Go Go.Ab Go.Wk Go.Pc
section
variable {x:SPr} (h:Pres x)
 include h
theorem zS3:∀k,k≤x.zA.length→2*((Ji k).flatMap (R2 x)).length+k*k+k=2*(x.zA.length*k)
 |0,_=>by simp
 |k+1,hk=>by
  have ih:=zS3 k (by omega);have t2:=(h.tl k (by omega)).2.1;have e:((Ji (k+1)).flatMap (R2 x)).length=((Ji k).flatMap (R2 x)).length+(x.zB.getD k []).length:=by grind[Kv,R2]
  grind
theorem zQw:2*(yZ x).length=x.zA.length*(x.zA.length+1):=by
 have:=zS3 h x.zA.length (Jf _)
 grind[yZ]
end
theorem zLT{α:Type}{F:α→List Int}{D c:Nat}(hc:c<D):∀(L:List α)(a:Nat)(q:α),(∀q∈L,(F q).length=D)→L[a]? =iz q→at0 ((L.map F).flatten) (a*D+c)=at0 (F q) c
 | [],a,q,_,h=>by simp at h
 |y::L,0,q,hF,h=>by grind
 |y::L,a+1,q,hF,h=>by have h1:=hF y (by simp);simp only[Ja6]at h;rw[Jl,U8,zC2,L5,if_neg (by omega),show a*D+D+c-(F y).length=a*D+c from by omega];exact zLT hc L a q (by grind) h
theorem zFV{α:Type}{F:α→List Int}{D:Nat}:∀(L:List α),(∀q∈L,(F q).length=D)→((L.map F).flatten).length=L.length*D
 | [],_=>by simp
 |y::L,h=>by
  have:=zFV L fun q hq=>h q (by simp[hq])
  grind
def zJ3{α:Type}(N:Nat)(F:Nat→α→List Int)(L:List α):Mx:=gl N fun k=>(L.map (F k)).flatten
section
variable {α:Type}{p:Int}{N D:Nat}{F:Nat→α→List Int} (hF:∀k,k<N→ ∀q,Row p D (F k q))
 include hF
theorem zFW(L:List α):∀k,k<N→Row p (L.length*D) ((zJ3 N F L).getD k []):=by
 intro k hk;rw[zJ3,xR hk];refine zKs.2 ⟨zFV L fun q _=>(hF k hk q).1,fun v hv=>?_⟩;obtain⟨r,h1,h2⟩:=Ja1.1 hv;obtain⟨q,_,rfl⟩:=Jj.1 h1
 grind[zKs]
end
def sT(n D:Nat)(v:List Int):Mx:=gl n fun i=>mkv D fun j=>at0 v (i*D+j)
theorem zS4{v:List Int}{D a:Nat}(h:a+D≤v.length):(v.drop a).take D=mkv D fun j=>at0 v (a+j):=by
 have hl:((v.drop a).take D).length=D:=by grind
 rw[wT hl]
 grind[yD]
theorem zJ4{v:List Int}{D a:Nat}(h:a+D≤v.length):zO v (a:Int) ((a+D:Nat):Int)=iz (mkv D fun j=>at0 v (a+j)):=by unfold zO;rw[if_pos (by omega),J6,J6,L6,zS4 h]
theorem zKv{p:Int}{n D:Nat}{v:List Int}(hv:Row p (n*D) v):VOk n p D (sT n D v):=by
 refine⟨xY,fun i hi=>?_⟩;rw[sT,xR hi];refine⟨yE _ _,fun j hj=>?_⟩;rw[zS hj];have:i*D+D≤n*D:=by
  have:=Kj D (show i+1≤n by omega)
  grind
 exact hv.2 _ (by omega)
end Go.Pl

namespace Go.Pl
open Go Go.Ab Go.Wk Go.Pc
theorem zPv{p:Int}{n:Nat}{R R':Mx}{pv:Nat→Nat}{v:List Int}:∀i,(∀k,k<i→R.getD k []=R'.getD k [])→cl p n R pv v i=cl p n R' pv v i
 |0,_=>rfl
 |i+1,h=>by rw[cl,cl,zPv i fun k hk=>h k (by omega),h i (by omega)]
theorem Red.sub{p:Int}{n:Nat}{R:Mx}{pv:Nat→Nat}(h:Red p n R pv){t:Nat}(ht:t≤R.length):Red p n (gl t fun i=>R.getD i []) pv:=by
 have hl:(gl t fun i=>R.getD i []).length=t:=xY;have he:∀i j,i<t→ent (gl t fun i=>R.getD i []) i j=ent R i j:=by grind
 refine⟨fun i hi=>?_,fun i hi=>h.lt i (by omega),fun i hi=>?_,fun i hi j hj=>?_,fun i k hi hk gf=>?_,fun i j gV hj=>h.mono i j gV (by omega)⟩
 ·rw[hl]at hi
  rw[xR hi];exact h.row i (by omega)
 ·rw[hl]at hi
  rw[he _ _ hi];exact h.one i (by omega)
 ·rw[hl]at hi
  rw[he _ _ hi];exact h.low i (by omega) j hj
 ·rw[hl]at hi hk
  rw[he _ _ hk];exact h.off i k (by omega) (by omega) gf
end Go.Pl

namespace Go.Pl
open Go Go.Ab Go.Wk Go.Pc
theorem zDK{n D i:Nat}(hi:i<n):i*D+D≤n*D:=by
 have:=Kj D (show i+1≤n by omega)
 grind
theorem zE0{n D:Nat}(hD:1≤D){v:List Int}(hl:v.length=n*D)(hs:n*D≤100000):zOe v (D:Int)=iz (sT n D v):=by
 have hn:n≤n*D:=Qe n hD;have:=zQ (body:=zM1 v (D:Int)) (r:=sT n D v) (fun i=>(gl i fun i=>mkv D fun j=>at0 v (i*D+j),((i*D:Nat):Int))) n (fun i hi=>by
  have h1:=zDK (D:=D) hi;unfold zM1;simp only
  rw[iE (by omega),zK,←Lj,zI (by omega) (by omega),bs,zJ4 (by omega),bs,zAa (by grind[yE]),bs,zY (by rw[xY];simp;omega),bs,bs,kG,←L5]) (by
  unfold zM1;simp only
  rw[iD (by omega),zL];rfl)
 grind[zOe]
theorem zIf{n D:Nat}(hD:1≤D)(hD3:D≤1000){v:List Int}(hl:v.length=n*D)(hs:n*D≤100000):zMD v (D:Int)=iz (sT n D v):=by
 have hn:n≤n*D:=Qe n hD;have:=zQ (body:=zMC v (D:Int)) (r:=sT n D v) (fun i=>(gl i fun i=>mkv D fun j=>at0 v (i*D+j),((i*D:Nat):Int))) n (fun i hi=>by
  have h1:=zDK (D:=D) hi;unfold zMC;simp only
  rw[←Lj,zI (by omega) (by omega),bs,iE (by omega),zK,bs,zJ4 (by omega),bs,wQ (by grind[yE]),bs,zY (by rw[xY];simp;omega),bs,bs,kG,←L5]) (by
  unfold zMC;simp only
  rw[←Lj,zI (by omega) (by omega),bs,iD (by omega),zL];rfl)
 grind[zMD]
section
variable {x:SPr} (h:Pres x) {m:zC}{D:Nat} (hm:MOk x.zA.length m D)
 include h hm
section
variable {vals:Mx} (hv:VOk x.zA.length m.Prime D vals)
 include hv
theorem zIg:f_w x m vals=iz ((yZ x).map (dfc m D vals)):=by
 have h6:=h.os.1;have h7:=hm.p.pos;have h3:=hm.d3;have fE:=h.pl;have gD:=h.cl;have hz:=zBK (p:=m.Prime) (D:=D) (by omega);unfold f_w;rw[hm.d,yX (by omega),bs];have e1:=tE (body:=zUy x m vals D) x.zA.length (fun i=>dfc m D vals (r1 x i)) (fun i acc hi ha=>by
  obtain⟨p1,p2⟩:=jQ h.os (h.tl i hi).1;have ho:=(h.os.2 i hi).pos;unfold zUy;simp only
  rw[yM hi,zK];rw[vT (S:=Row m.Prime D) (body:=zUx x m vals (acc,(i:Int))) (fun v=>v) (fun v=>stp m D vals v i) (at0 x.zA i) (by omega) (by grind[zCz]) (fun u q hu hq=>by
   unfold zUx;simp only
   rw[yH hi,bs,iE hq,zK,zCj hm h6 hv hu hi,bs,zI (by omega) (by omega),bs,cs]) (fun u hu=>by
   unfold zUx;simp only
   rw[yH hi,bs,iD (by omega),zL]) hz,bs,zI (by omega) (by omega),bs,zX [] (by omega),bs,zGw hm h6 hv hz p1 p2,bs,←zNs]
  have e1:f_D m.Prime (ev m D vals (z0 D) (J1 (at0 x.zA i).toNat i)) (m.Prime-1) (ev m D vals (z0 D) (nw 0 (x.zJ.getD i [])))=iz (dfc m D vals (r1 x i)):=by rw[tN hm.p (qT hm h6 hv hz _) (qT hm h6 hv hz _) (by omega) (by omega),zEy];rfl
  grind[zY,zI]) (fun acc=>by
  unfold zUy;simp)
 rw[e1,bs];have aN:=zHX h;have e2:=zQ (body:=zU0 x m vals D) (r:=(yZ x).map (dfc m D vals)) (fun i=>(((Ji x.zA.length).map (fun i=>dfc m D vals (r1 x i)))++((Ji i).flatMap (R2 x)).map (dfc m D vals),(i:Int))) x.zA.length (fun i hi=>by
  have t2:=(h.tl i hi).2.1;have hfi:=aN i (by omega);unfold zU0;simp only
  rw[yM hi,zK,zI (by omega) (by omega),bs,cs];have gU:=zQ (body:=zUz x m vals D (((Ji x.zA.length).map (fun i=>dfc m D vals (r1 x i)))++((Ji i).flatMap (R2 x)).map (dfc m D vals),(i:Int)))
   (r:=((Ji x.zA.length).map (fun i=>dfc m D vals (r1 x i)))++((Ji (i+1)).flatMap (R2 x)).map (dfc m D vals))
   (fun j=>(((Ji x.zA.length).map (fun i=>dfc m D vals (r1 x i)))++((Ji i).flatMap (R2 x)).map (dfc m D vals)++(Ji j).map (fun j=>dfc m D vals (r2 x i j)),((i+1+j:Nat):Int))) (x.zB.getD i []).length (fun j hj=>by
   obtain⟨c1,c2⟩:=jQ h.os ((h.tl i hi).2.2 j hj);have bn:i+1+j<x.zA.length:=by omega
   have s1:=zCj hm h6 hv hz bn;have s2:=zCj hm h6 hv (zCz hm h6 hv (v:=z0 D) (w:=i+1+j)) hi;have s3:=zCj hm h6 hv hz hi;have s4:=zGw hm h6 hv (zCz hm h6 hv (v:=z0 D) (w:=i)) c1 c2;unfold zUz;simp only
   rw[yM bn,zK,s1,bs,s2,bs,s3,bs,zX [] (by omega),bs,zI (by omega) (by omega),bs,zI (by omega) (by omega),bs,show(((i+1+j:Nat):Int)-(i:Int)-1)=(j:Int)from by omega,zX [] hj,bs,s4,bs,zI (by omega) (by omega),bs];have e2:f_D m.Prime (stp m D vals (stp m D vals (z0 D) (i+1+j)) i) (m.Prime-1) (ev m D vals (stp m D vals (z0 D) i) (nw 0 ((x.zB.getD i []).getD j [])))=iz (dfc m D vals (r2 x i j)):=by
    rw[tN hm.p (zCz hm h6 hv) (by grind[qT,zCz]) (by omega) (by omega),zEy];simp only[dfc,r2,ev,Hv,List.foldl_nil]
    grind
   rw[e2,bs,zY (by grind[Jo]),bs,zI (by omega) (by omega),bs,cs,Kv,Lp,Jh];rfl) (by
   unfold zUz;simp only
   rw[show i+1+(x.zB.getD i []).length=x.zA.length from by omega,qD,zL,Kv (n:=i),Ue,Lp,←Jh];simp[R2])
  simp_all) (by
  unfold zU0;simp only
  rw[qD,zL];simp only[yZ,Lp,Ud];rfl)
 simp_all
end
def uv(n D k:Nat):Mx:=sT n D (tF (n*D) k)
theorem zPw{k:Nat}:VOk x.zA.length m.Prime D (uv x.zA.length D k):=by have _:=h;have h7:=hm.p.pos;exact zKv (zQt h7.1)
theorem zN9:∀k,k<x.zA.length*D→ ∀q,Row m.Prime D (dfc m D (uv x.zA.length D k) q):=fun k _ q=>by have _:=h;exact kF hm.p
theorem zS5{k:Nat}:zOe (tF (x.zA.length*D) k) (D:Int)=iz (uv x.zA.length D k):=by have h6:=h.os.1;have h3:=hm.d3;have fw:x.zA.length*D≤14*3:=K6 h6 h3;exact zE0 hm.d1 (yE _ _) (by omega)
theorem zZ1{k:Nat}:zMD (tF (x.zA.length*D) k) (D:Int)=iz (uv x.zA.length D k):=by have h6:=h.os.1;have h3:=hm.d3;have fw:x.zA.length*D≤14*3:=K6 h6 h3;exact zIf hm.d1 (by omega) (yE _ _) (by omega)
theorem zIh{vals:Mx}{L:List Rl}:((L.map (dfc m D vals)).flatten).length=L.length*D:=by have _:=h;have _:=hm;grind[zFV,zDp]
theorem zCI:zQW x m=iz (zJ3 (x.zA.length*D) (fun k=>dfc m D (uv x.zA.length D k)) (yZ x)):=by
 have h6:=h.os.1;have h3:=hm.d3;have fw:x.zA.length*D≤14*3:=K6 h6 h3;have eJ:=zGL h hm (zPw h hm (k:=0));have bc:(yZ x).length*D≤300*3:=K6 eJ h3;unfold zQW;rw[hm.d,←Uk,zI (by omega) (by omega),bs];rw[tE (body:=zMF x m ((x.zA.length*D:Nat):Int)) (x.zA.length*D) (fun k=>((yZ x).map (dfc m D (uv x.zA.length D k))).flatten) (fun k acc hk ha=>by
  unfold zMF;simp only
  rw[yM hk,zK,zAF hk (by omega),bs,hm.d,zS5 h hm,bs,zAZ h hm (zPw h hm (k:=k)),bs,zA7 (by simp;omega) (by rw[zIh h hm];omega),bs,zY (by simp;omega),bs,zI (by omega) (by omega),bs,cs]) (fun acc=>by
  unfold zMF;simp),bs]
 rfl
theorem zQx{k N:Nat}:(J1 N (0:Int)).set k 1=tF N k:=by have _:=h;have _:=hm;rw[uO,kE,tF]
theorem zDt:zU1 x m=iz (zJ3 (x.zA.length*D) (fun k=>dfc m D (uv x.zA.length D k)) (yZ x)):=by
 have h6:=h.os.1;have h3:=hm.d3;have fw:x.zA.length*D≤14*3:=K6 h6 h3;have eJ:=zGL h hm (zPw h hm (k:=0));have bc:(yZ x).length*D≤300*3:=K6 eJ h3;unfold zU1;rw[hm.d,←Uk,zI (by omega) (by omega),bs];rw[tE (body:=zME x m ((x.zA.length*D:Nat):Int)) (x.zA.length*D) (fun k=>((yZ x).map (dfc m D (uv x.zA.length D k))).flatten) (fun k acc hk ha=>by
  unfold zME;simp only
  rw[yM hk,zK,yX (by omega),bs,vY,K7,if_pos hk,bs,J6,zQx h hm,hm.d,zZ1 h hm,bs,zIg h hm (zPw h hm (k:=k)),bs,zJz (by simp;omega) (by rw[zIh h hm];omega),bs,zY (by simp;omega),bs,zI (by omega) (by omega),bs,cs]) (fun acc=>by
  unfold zME;simp),bs]
 rfl
end
end Go.Pl

namespace Go.Pl
open Go Go.Ab Go.Wk Go.Pc
theorem zNA{L:Mx}(h6:L.length≤14)(h:∀r∈L,r.length≤3):S2 L:=by have:=zId (c:=c1) (b:=3) (xs:=L) h;simp only[S2,c2];omega
theorem zQy{n D:Nat}{v:List Int}(hn:n≤14)(hD:D≤3):S2 (sT n D v):=by
 refine zNA (by grind[sT]) fun r hr=>?_
 obtain⟨i,_,rfl⟩:=Jj.1 hr
 grind[yE]
theorem zQz{n D:Nat}{p:Int}{vals:Mx}(hV:VOk n p D vals):Row p (n*D) vals.flatten:=by
 have h:=zLP (p:=p) (D:=D) (xs:=vals) fun r hr=>by
  obtain⟨i,hi,rfl⟩:=Jt.1 hr;have:=hV.2 i (by rw[←hV.1];exact hi)
  grind
 rw[hV.1]at h;exact h
theorem zS6{v:List Int}{k:Nat}(hl:v.length≤1000000)(hk:k<v.length)(h0:∀j,j<k→at0 v j=0)(h1:at0 v k≠0):zWE v=iz (k:Int):=by
 unfold zWE;have:=zQ (body:=zMG v) (r:=.inr (k:Int)) (fun i=>(i:Int)) k (fun i hi=>by
  unfold zMG zWD;rw[yM (by omega),zK,yH (by omega),bs,bs,h0 i hi,bne_self_eq_false,zL,zI (by omega) (by omega),bs,cs]) (by
  unfold zMG zWD;rw[yM hk,zK,yH hk,bs,bs,zA4 h1,zK])
 grind
theorem zJ5{b:List Int}{N:Nat}(h:b.length+N≤1000000):yO b (N:Int) (0:Int)=iz (b++J1 N 0):=by unfold yO;rw[if_pos (by omega),J6]
section
variable {p:Int} (hp:Prime p) {c N:Nat} (gw:c+N≤100000) {A W:Mx}{pv:Nat→Nat}{t:Nat} (h:Nul p c N A W pv t)
 include hp gw h
def sy(p:Int)(c N:Nat)(W:Mx)(pv:Nat→Nat)(b:List Int)(t:Nat):List Int:=cl p (c+N) W pv (b++J1 N 0) t
def sx(p:Int)(c N:Nat)(W:Mx)(pv:Nat→Nat)(b:List Int)(t:Nat):List Int:=mkv N fun j=>(0-at0 (sy p c N W pv b t) (c+j))%p
theorem zGS{b:List Int}(hb:Row p c b):Row p (c+N) (b++J1 N 0):=by
 have _:=gw;have _:=h;have h7:=hp.pos;refine⟨by rw[Ja,hb.1,K8],fun j hj=>?_⟩;rw[zC2,hb.1];split
 ·next g=>exact hb.2 j g
 ·next g=>
  have:at0 (J1 N (0:Int)) (j-c)=0:=by simp[at0,J2,show j-c<N by omega]
  omega
theorem zFX{b:List Int}(hb:Row p c b)(t:Nat):Row p (c+N) (sy p c N W pv b t):=zBL hp gw h.red (zGS hp gw h hb) t
theorem zKw{b:List Int}:Row p N (sx p c N W pv b t):=by have _:=gw;have _:=h;have h7:=hp.pos;refine⟨yE _ _,fun j hj=>?_⟩;rw[sx,zS hj];have e1:=Kz (0-at0 (sy p c N W pv b t) (c+j)) (show p≠0 by omega);have e2:=Kh (0-at0 (sy p c N W pv b t) (c+j)) (show 0<p by omega);omega
theorem zIi{y:List Int}(hy:y.length=c+N):zO y 0 (c:Int)=iz (y.take c):=by have _:=hp;have _:=gw;have _:=h;unfold zO;rw[if_pos (by omega),J6,show(0:Int).toNat=0 from rfl,Hw,Gw]
theorem zC4{y:List Int}(hy:y.length=c+N):zO y (c:Int) ((c+N:Nat):Int)=iz (y.drop c):=by have _:=hp;have _:=gw;have _:=h;unfold zO;rw[if_pos (by omega),J6,J6,Jm (by grind)]
theorem zQ0:zG (zQX (c:Int) W) ([],0)=iz (gl t fun i=>W.getD i []):=by
 have hf:=h.full hp gw;have eK:=h.le;have:=zQ (body:=zQX (c:Int) W) (r:=gl t fun i=>W.getD i []) (fun i=>(gl (min i t) (fun i=>W.getD i []),(i:Int))) W.length (fun i hi=>by
  have hr:=h.red.row i hi;have h1:=h.red.one i hi;have gH:=h.red.lt i hi;have cW:=zGN (n:=c+N) hr.1 (by omega) gH (h.red.low i hi) (by simp_all);unfold zQX;simp only
  rw[yM hi,zK,zX [] hi,bs,cW,bs];rcases Jg i t with g|g
  ·have:=h.lo i g
   rw[iE (by omega),zK,bs,zY (by grind),bs,zI (by omega) (by omega),bs,cs,H6 (by omega),H6 (by omega:i+1≤t),kG]
  ·have:=h.hi i g hi
   rw[iD (by omega),zL,zI (by omega) (by omega),bs,cs,G1 g,G1 (by omega:t≤i+1)]) (by
  unfold zQX
  simp_all)
 grind
theorem zLU{b:List Int}(hb:Row p c b):zG (zQY (zT.mk p (c:Int) A) W) (b++J1 N 0,0)=iz (sy p c N W pv b t):=by
 have h7:=hp.pos;have hf:=h.full hp gw;have eK:=h.le;have hv:=zGS hp gw h hb;have:=zQ (body:=zQY (zT.mk p (c:Int) A) W) (r:=sy p c N W pv b t) (fun i=>(sy p c N W pv b (min i t),(i:Int))) W.length (fun i hi=>by
  have hr:=h.red.row i hi;have h1:=h.red.one i hi;have gH:=h.red.lt i hi;have hix:=zS6 (v:=W.getD i []) (k:=pv i) (by rw[hr.1];omega) (by grind) (h.red.low i hi) (by simp_all);unfold zQY;simp only
  rw[yM hi,zK,zX [] hi,bs,hix,bs];rcases Jg i t with g|g
  ·have:=h.lo i g
   have hy:=zFX hp gw h hb i;have ha:=hy.2 (pv i) gH;rw[iE (by omega),zK,H6 (by omega),yH (by rw[hy.1];exact gH),bs,zI (by omega) (by omega),bs,zBe hp hy hr (by omega) (by omega),bs,zI (by omega) (by omega),bs,cs,H6 (by omega:i+1≤t)];rw[sy,zS0 hp gw h.red hv hi];rfl
  ·have:=h.hi i g hi
   rw[iD (by omega),zL,zI (by omega) (by omega),bs,cs,G1 g,G1 (by omega:t≤i+1)]) (by
  unfold zQY
  simp_all)
 rw[Nat.zero_min]at this;exact this
def ng(p:Int)(c N:Nat)(y:List Int)(i:Nat):List Int:=mkv (c+N) fun j=>if c≤j∧j<c+i then(0-at0 y j)%p else at0 y j
theorem zS7{y:List Int}(hy:Row p (c+N) y):zG (zQZ (zT.mk p (c:Int) A) y) (y,0)=iz (ng p c N y N):=by
 have h7:=hp.pos;have er:=hy.1;have:=zQ (body:=zQZ (zT.mk p (c:Int) A) y) (r:=ng p c N y N) (fun i=>(ng p c N y i,(i:Int))) N (fun i hi=>by
  have hl:(ng p c N y i).length=c+N:=yE _ _;have cX:((ng p c N y i).drop c).length=N:=by grind
  have he:at0 ((ng p c N y i).drop c) i=at0 y (c+i):=by rw[zBr,ng,zS (by omega),if_neg (by omega)]
  have hb:=hy.2 (c+i) (by omega);unfold zQZ;simp only
  rw[J6,J6,er,L6,yM hi,zK,zC4 hp gw h hl,bs,yH (by omega),bs,he,zI (by omega) (by omega),bs,zGv hp (by omega) (by omega),bs,bs,yH (by omega),bs,zI (by omega) (by omega),bs,cs,←Lj,J6]
  congr 3
  rw[ng,kE];refine yD fun j hj=>?_
  by_cases e:j=c+i
  ·simp_all
  omega) (by
  unfold zQZ;simp only
  rw[J6,J6,er,L6,qD,zL])
 have e:ng p c N y 0=y:=by
  conv=>rhs;rw[wT er]
  exact yD (by omega)
 grind
theorem zS8{b:List Int}:(ng p c N (sy p c N W pv b t) N).drop c=sx p c N W pv b t:=by
 have _:=hp;have _:=gw;have _:=h;have hl:((ng p c N (sy p c N W pv b t) N).drop c).length=N:=by grind[ng,yE]
 rw[wT hl];refine yD fun j hj=>?_
 rw[zBr,ng,zS (by omega),if_pos (by omega)]
theorem zNB{b:List Int}:(mkv N fun j=>(at0 ((sy p c N W pv b t).drop c) j*(p-1))%p)=sx p c N W pv b t:=by
 have _:=hp;have _:=gw;have _:=h;refine yD fun j hj=>?_
 rw[zBr]
 generalize at0 (sy p c N W pv b t) (c+j)=a
 have e:a*(p-1)=(0-a)+p*a:=by grind
 simp_all
theorem zC5(h2:f_v p (wd N A)=iz W){b:List Int}(hb:Row p c b):f_W p A (c:Int) b=(zIM ((sy p c N W pv b t).take c)).bind fun r13=>cond (!r13) (iz ([],iC)) (iz (cl p N (nul c t W) (fun i=>pv (t+i)-c) (sx p c N W pv b t) (nul c t W).length,iB)):=by
 have h7:=hp.pos;have hr:=h.row;have hl:=h.len;have hf:=h.full hp gw;have eK:=h.le;have hy:=zFX hp gw h hb t;have hK:=h.nred hp gw;have hKl:(nul c t W).length≤N:=hK.len_le;have hx:=zKw hp gw h (b:=b);have tw:cl p (c+N) (gl t fun i=>W.getD i []) pv (b++J1 N 0) (gl t fun i=>W.getD i []).length=sy p c N W pv b t:=by grind[sy,zPv]
 have tf:zW0 p A (c:Int)=iz (nul c t W):=by grind[zW0,zJ2,zQv]
 have cX:Row p N ((sy p c N W pv b t).drop c):=by refine⟨by rw[Lb,hy.1];omega,fun j hj=>?_⟩;rw[zBr];exact hy.2 _ (by omega)
 have hgl:(gl t fun i=>W.getD i []).length=t:=xY;unfold f_W;rw[zJ2 hp gw hr hl,h2,bs,wQ (by rw[hb.1];omega),bs,hl,zJ5 (by rw[hb.1];omega),bs,zQ0 hp gw h,bs,zC1 hp gw (h.red.sub eK) (zGS hp gw h hb) (by omega),bs,tw,zIi hp gw h hy.1,bs,zI (by omega) (by omega),bs,hy.1,zC4 hp gw h hy.1,bs,zEz hp (by omega) cX (by omega) (by omega),bs,tf,bs,zNB hp gw h,zC1 hp (by omega) hK hx (by omega),bs]
 omit h in
theorem zIj(hr:∀i,i<N→Row p c (A.getD i []))(hl:A.length=N){b:List Int}(hb:Row p c b):∃r ok,f_W p A (c:Int) b=iz (r,ok)∧f_E (zT.mk p (c:Int) A) b=iz (r,ok)∧r.length≤N:=by
  have h7:=hp.pos;obtain⟨W,pv,t,h,h2,h3⟩:=Nul.get hp gw hr hl;have hf:=h.full hp gw;have eK:=h.le;have hy:=zFX hp gw h hb t;have hK:=h.nred hp gw;have hKl:(nul c t W).length≤N:=hK.len_le;have hx:=zKw hp gw h (b:=b);have gD:=zBL hp (by omega) hK hx (nul c t W).length;have ug:zWC p A (c:Int)=iz (nul c t W):=by unfold zWC;rw[zBB gw hr hl,bs,h3,bs,zLS hp gw h,bs,(zLR hp (by omega) hK).2,bs]
  have fc:((sy p c N W pv b t).take c).length=c:=by rw[Kn,hy.1];omega
  have es:=zC5 hp gw h h2 hb;have ei:f_E (zT.mk p (c:Int) A) b=(f_L ((sy p c N W pv b t).take c)).bind fun r13=>cond (!r13) (iz ([],iC)) (iz (cl p N (nul c t W) (fun i=>pv (t+i)-c) (sx p c N W pv b t) (nul c t W).length,iB)):=by
    unfold f_E yAa;simp only
    rw[zAa (by rw[hb.1];omega),bs,hl,zJ5 (by rw[hb.1];omega),bs,zBB gw hr hl,bs,h3,bs,zLU hp gw h hb,bs,zIi hp gw h hy.1,bs,hy.1,zC4 hp gw h hy.1,bs,zS7 hp gw h hy,bs,ug,bs,bs,zC4 hp gw h (y:=ng p c N (sy p c N W pv b t) N) (yE _ _),bs,zS8 hp gw h,zDq hp (by omega) hK hx (by omega),bs]
  rw[es,ei];rcases(kY (v:=(sy p c N W pv b t).take c) (by omega)).both (zFl (by omega))with⟨z1,z2,_⟩|⟨z1,z2,_⟩
  · rw[z1,z2,bs,J7,zL]
    exact⟨_,_,rfl,rfl,by rw[gD.1];omega⟩
  simp_all
end
end Go.Pl

namespace Go.Pl
open Go Go.Ab Go.Wk Go.Pc
end Go.Pl

namespace Go.Pl
open Go Go.Ab Go.Wk Go.Pc
theorem zIk{N c:Nat}{f:Nat→Int}:(mkv N f).drop c=mkv (N-c) fun i=>f (c+i):=by
 have hl:((mkv N f).drop c).length=N-c:=by rw[Lb,yE]
 grind[wT,yD,zBr,zS]
theorem zAA{n j:Nat}:xD n j=mkv n fun i=>if i=j then 1 else 0:=by rw[xD,show zeros n=J1 n (0:Int)from rfl,uO,kE]
theorem uB{n i:Nat}:at0 (zeros n) i=0:=by
 rcases Jg i n with g|g
 ·simp[zeros,at0,J2,g]
 ·simp[zeros,at0,J2,g]
theorem zEd.p{x:SPr}(h:zEd x)(hl:x.zA.length≤14):Pres x:=⟨⟨hl,h.os.2⟩,h.pl,h.cl,h.tl⟩
structure ExB (n D:Nat) (x:SPr) (m:zC) (T:Mx):Prop where
 hn:n≤6
 o:x.zA.length=n
 p:x.zJ.length=n
 c:x.zB.length=n
 cl:∀i,i<n→(x.zB.getD i []).length=n-1-i
 t:T.length=base n n
 m:zZt n m D
theorem zKt.b{n D:Nat}{x:SPr}{m:zC}{T:Mx}(h:zKt n D x m T)(hm:MOk n m D):ExB n D x m T:=⟨h.hn,h.o,h.p,h.c,h.cl,h.t,hm.b⟩
section
variable {D:Nat}{x:SPr}{m:zC}{T:Mx} (h:Pres x) (hE:ExB x.zA.length D x m T) (hT:∀i,i<T.length→Row m.Prime D (T.getD i []))
 include h hE hT
abbrev exx(D:Nat)(x:SPr)(m:zC)(T:Mx):SPr:=ext x.zA.length D x m T
theorem xU:(exx D x m T).zA.length=x.zA.length+D:=by have _:=h;have _:=hE;have _:=hT;simp[exx,ext]
theorem sG{i:Nat}(hi:i<x.zA.length):at0 (exx D x m T).zA i=at0 x.zA i:=by
 have _:=h;have _:=hE;have _:=hT;show at0 (x.zA++J1 D m.Prime) i=_
 grind
theorem zC6{i:Nat}(hi:x.zA.length≤i)(h2:i<x.zA.length+D):at0 (exx D x m T).zA i=m.Prime:=by
 have _:=h;have _:=hE;have _:=hT;show at0 (x.zA++J1 D m.Prime) i=_
 grind
theorem zNC{v t:List Int}{i:Nat}(hv:v.length=x.zA.length)(hr:∀j,j<x.zA.length→0≤at0 v j∧at0 v j≤at0 x.zA j-1)(hz:∀j,j≤i→j<x.zA.length→at0 v j=0)(ht:Row m.Prime D t)(hi:i<x.zA.length):Exp (exx D x m T).zA (v++t) i:=by
 have hl:=xU h hE hT;refine⟨⟨by rw[Ja,hv,ht.1,hl],fun j hj=>?_⟩,fun j hj=>?_⟩
 ·rw[Ja,hv,ht.1]at hj
  rw[zC2,hv];split
  ·grind[sG]
  ·next g=>rw[zC6 h hE hT (by omega) hj];exact ht.2 _ (by omega)
 grind
theorem zLV(i:Nat)(hi:i<base x.zA.length x.zA.length):Row m.Prime D (T.getD i []):=by have _:=h;exact hT i (by rw[hE.t];exact hi)
theorem zFm:zEd (exx D x m T):=by
 have hn:=hE.hn;have h3:=hE.m.d3;have h7:=hE.m.p.pos;have hl:=xU h hE hT;have hb:=tG x.zA.length (by omega);refine⟨⟨trivial,fun i hi=>?_⟩,by rw[hl];exact xY,by rw[hl];exact xY,fun i hi=>?_⟩
 ·rw[hl]at hi
  rcases Jg i x.zA.length with g|g
  ·rw[sG h hE hT g];exact h.os.2 i g
  ·rw[zC6 h hE hT g hi];exact hE.m.p
 ·rw[hl]at hi
  have hP:(exx D x m T).zJ.getD i []=exP x.zA.length D x T i:=xR hi;have hC:(exx D x m T).zB.getD i []=exC x.zA.length D x m T i:=by
   show(gl (x.zA.length+D) (exC x.zA.length D x m T)).getD i []=_
   grind
  refine⟨?_,?_,?_⟩
  ·rw[hP,exP]
   rcases Jg i x.zA.length with g|g
   ·rw[if_pos g]
    obtain⟨t1,_,_⟩:=h.tl i g;exact zNC h hE hT t1.1.1 (fun j hj=>t1.1.2 j (by rw[t1.1.1];exact hj)) (fun j hj _=>t1.2 j hj) (by grind[zLV]) g
   ·rw[if_neg (by omega)]
    have hz:∀j,at0 (J1 (x.zA.length+D) (0:Int)) j=0:=fun j=>uB
    refine⟨⟨by grind,fun j hj=>?_⟩,fun j _=>hz j⟩;rw[K8]at hj;rw[hz];rcases Jg j x.zA.length with g2|g2
    ·rw[sG h hE hT g2];have:=(h.os.2 j g2).pos;omega
    grind[zC6]
  ·grind[exC,unC]
  ·rw[hC,exC]
   split
   ·next g=>
    intro j hj;rw[xY]at hj;rw[xR hj,exF];split
    ·next g2=>
     have gD:=hE.cl i g;have pE:=zGP x.zA.length (by omega) i g;obtain⟨_,_,t3⟩:=h.tl i g;have t:=t3 j (by omega);exact zNC h hE hT t.1.1 (fun q hq=>t.1.2 q (by rw[t.1.1];exact hq)) (fun q hq _=>t.2 q hq) (by grind[zLV]) g
    ·next g2=>
     have hz:∀j,at0 (J1 x.zA.length (0:Int)) j=0:=fun j=>uB
     refine zNC h hE hT (by simp) (fun q hq=>?_) (fun q _ _=>hz q) ((hE.m.mat i g).2 _ (by omega)) g;rw[hz];have:=(h.os.2 q hq).pos;omega
   ·next g=>
    intro j hj;rw[unC,xY]at hj;rw[unC,xR hj];refine⟨⟨by rw[hl];exact yE _ _,fun q hq=>?_⟩,fun q hq=>?_⟩
    ·rw[tF,yE]at hq
     rw[tF,zS hq];rcases Jg q x.zA.length with g2|g2
     ·rw[sG h hE hT g2];have:=(h.os.2 q g2).pos;omega
     grind[zC6]
    ·rw[tF,zS (by omega),if_neg (by omega)]
theorem zFn{k:Nat}(hk:k<x.zA.length):(lvl (exx D x m T) k).o=at0 x.zA k:=sG h hE hT hk
theorem zLW{k:Nat}(hk:k<x.zA.length):(lvl (exx D x m T) k).w=(lvl x k).w++T.getD k []:=by have t1:=(h.tl k hk).1.1.1;have _:=hE;have _:=hT;show((exx D x m T).zJ.getD k []).drop (k+1)=_;have hP:(exx D x m T).zJ.getD k []=exP x.zA.length D x T k:=xR (by omega);rw[hP,exP,if_pos hk,Kg (by omega)];rfl
def eC1(x:SPr)(T:Mx)(k:Nat):List Vec:=gl (x.zA.length-1-k) fun j=>(lvl x k).cs.getD j []++T.getD (base x.zA.length k+j) []
def eC2(x:SPr)(m:zC)(D k:Nat):List Vec:=((gl D fun j=>(m.zE.getD k []).getD j []).map fun r=>zeros (x.zA.length-1-k)++r)
theorem zE1{k:Nat}(hk:k<x.zA.length):(lvl (exx D x m T) k).cs=eC1 x T k++eC2 x m D k:=by
 have gD:=hE.cl k hk;have _:=hT;show((exx D x m T).zB.getD k []).map (·.drop (k+1))=_;have hC:(exx D x m T).zB.getD k []=exC x.zA.length D x m T k:=by
  show(gl (x.zA.length+D) (exC x.zA.length D x m T)).getD k []=_
  grind
 rw[hC,exC,if_pos hk];apply Kk;intro j
 by_cases hj:j<x.zA.length+D-1-k
 ·have e1:((gl (x.zA.length+D-1-k) (exF x.zA.length x m T k)).map (·.drop (k+1)))[j]? =iz ((exF x.zA.length x m T k j).drop (k+1)):=by grind
  rw[e1,exF]
  by_cases g:j<x.zA.length-1-k
  ·rw[if_pos g,K5 (by grind[eC1])]
   have t:=(h.tl k hk).2.2 j (by omega);rw[Kg (by have:=t.1.1;omega)];have e2:(eC1 x T k)[j]? =iz ((lvl x k).cs.getD j []++T.getD (base x.zA.length k+j) []):=by simp[eC1,gl,g]
   rw[e2]
   congr 2
   simp only[lvl,J2,Jn]
   grind
  ·rw[if_neg g,Jb (by grind[eC1]),eC1,xY]
   have e2:(eC2 x m D k)[j-(x.zA.length-1-k)]? =iz (zeros (x.zA.length-1-k)++(m.zE.getD k []).getD (j-(x.zA.length-1-k)) []):=by simp[eC2,gl,show j-(x.zA.length-1-k)<D by omega]
   rw[e2,Kg (by simp;omega),L4,show x.zA.length-(k+1)=x.zA.length-1-k from by omega];rfl
 ·rw[Ku (by grind),Ku (by simp[eC1,eC2,gl];omega)]
end
def tlv(p:Int):Nat→Pcp
 |0=>[]
 |d+1=>⟨p,zeros d,xT d⟩::tlv p d
theorem zGT{p:Int}:∀d,(tlv p d).length=d
 |0=>rfl
 |d+1=>by simp[tlv,zGT d]
theorem zGz{p:Int}:∀(d:Nat)(v:Vec),V (tlv p d) v↔Row p d v
 |0,v=>by
  constructor
  ·intro h
   obtain rfl:v=[]:=h;exact⟨rfl,fun i hi=>by omega⟩
  ·intro h
   have:=Jy h.1;subst this;exact rfl
 |d+1,v=>by
  cases v with
  |nil=>exact⟨fun h=>h.elim,fun h=>by have:=h.1;grind⟩
  |cons a v=>
   show((0≤a∧a<p)∧V (tlv p d) v)↔_;rw[zGz d v];constructor
   ·rintro⟨⟨h0,h1⟩,h2⟩
    refine⟨by simp[h2.1],fun i hi=>?_⟩;cases i with
    |zero=>grind
    |succ i=>have:=h2.2 i (by omega);grind
   ·intro h
    have h0:=h.2 0 (by omega);simp only[at0,Hk]at h0;refine⟨⟨h0.1,by omega⟩,by have:=h.1;grind,fun i hi=>?_⟩;have:=h.2 (i+1) (by omega)
    grind
abbrev adv(p:Int)(D:Nat)(u v:List Int):List Int:=mkv D fun j=>(at0 u j+at0 v j)%p
theorem tR{p:Int}{D:Nat}{u v:List Int}(hp:0<p):Row p D (adv p D u v):=by refine⟨yE _ _,fun j hj=>?_⟩;rw[zS hj];have e1:=Kz (at0 u j+at0 v j) (show p≠0 by omega);have e2:=Kh (at0 u j+at0 v j) hp;omega
theorem zIl{p:Int}{D:Nat}{c:List Int}(hp:0<p):∀(k:Nat)(acc:List Int),Row p D acc→iter k (fun w=>adv p D w c) acc=mkv D fun j=>(at0 acc j+(k:Int)*at0 c j)%p
 |0,acc,ha=>by
  show acc=_
  conv=>lhs;rw[wT ha.1]
  refine yD fun j hj=>?_
  have:=ha.2 j hj;rw[Int.natCast_zero,Ge,Lw,Jz this.1 (by omega)]
 |k+1,acc,ha=>by
  show iter k (fun w=>adv p D w c) (adv p D acc c)=_;rw[zIl hp k _ (tR hp)];refine yD fun j hj=>?_
  grind[zS,Jx,Jr]
theorem zZ2{f:Nat→Int}{n:Nat}:S (n+1) f=f 0+S n fun i=>f (i+1):=by
 rw[Nat.add_comm,zGQ 1 n];simp only[S]
 grind
theorem zGU{p:Int}{D:Nat}(hp:0<p):∀(cs:List Vec)(v acc:Vec),v.length=cs.length→(∀i,i<v.length→0≤at0 v i)→Row p D acc→img (adv p D) cs v acc=mkv D fun j=>(at0 acc j+S cs.length fun k=>at0 v k*ent cs k j)%p
 | [],v,acc,hl,_,ha=>by
  show acc=_
  conv=>lhs;rw[wT ha.1]
  refine yD fun j hj=>?_
  have:=ha.2 j hj;simp only[U5,S];rw[Lw,Jz this.1 (by omega)]
 |c::cs,[],acc,hl,_,_=>by simp at hl
 |c::cs,a::v,acc,hl,hv,ha=>by
  have h0:=hv 0 (by simp);simp only[at0,Hk]at h0;have ef:Row p D (iter a.toNat (fun w=>adv p D w c) acc):=vP (S:=Row p D) (fun _ _=>tR hp) _ ha;show img (adv p D) cs v (iter a.toNat (fun w=>adv p D w c) acc)=_;rw[zGU hp cs v _ (by grind) (fun i hi=>by have:=hv (i+1) (by grind);grind) ef,zIl hp _ _ ha];refine yD fun j hj=>?_
  rw[zS hj,K2,zZ2,Jx,Jr,←Jx,Qa h0,Int.add_assoc];rfl
theorem zDL{α:Type}{S:α→Prop}{m m':α→α→α}(hm:∀a b,S a→S b→m a b=m' a b)(hc:∀a b,S a→S b→S (m' a b)):∀(cs:List α)(v:Vec)(acc:α),(∀c∈cs,S c)→S acc→img m cs v acc=img m' cs v acc
 | [],_,_,_,_=>by simp[img]
 |c::cs,[],_,_,_=>by simp[img]
 |c::cs,a::v,acc,h1,h2=>by
  have pC:=h1 c (by simp);have e:∀k acc,S acc→iter k (fun w=>m w c) acc=iter k (fun w=>m' w c) acc∧S (iter k (fun w=>m' w c) acc):=by
   intro k
   induction k with
   |zero=>intro acc ha;exact⟨rfl,ha⟩
   |succ k ih=>
    intro acc ha;show iter k (fun w=>m w c) (m acc c)=iter k (fun w=>m' w c) (m' acc c)∧_;rw[hm acc c ha pC];exact ih _ (hc _ _ ha pC)
  show img m cs v (iter a.toNat (fun w=>m w c) acc)=img m' cs v (iter a.toNat (fun w=>m' w c) acc);rw[(e _ _ h2).1];exact zDL hm hc cs v _ (by grind) (e _ _ h2).2
theorem zDM{d k j:Nat}(hk:k<d)(hj:j<d):ent (xT d) k j=if j=k then 1 else 0:=by
 have e:(xT d).getD k []=xD d k:=by grind[xT]
 rw[ent,e,zAA,zS hj]
theorem xF{p:Int}{D:Nat}(hp:0<p):Row p D (zeros D):=zBK hp
theorem zAw{p:Int}(hp:2≤p):∀(d:Nat)(u v:Vec),Row p d u→Row p d v→mul (tlv p d) u v=adv p d u v
 |0,u,v,hu,_=>by rfl
 |d+1,u,v,hu,hv=>by
  have ih:=zAw hp d;have mX:=(zGz (d+1) u).2 hu;have pI:=(zGz (d+1) v).2 hv;cases u with
  |nil=>exact mX.elim
  |cons a u=>
   cases v with
   |nil=>exact pI.elim
   |cons b v=>
    obtain⟨⟨a0,a1⟩,pJ⟩:=mX;obtain⟨⟨b0,b1⟩,pi⟩:=pI;have hu3:=(zGz d u).1 pJ;have pH:=(zGz d v).1 pi;change a<p at a1;change b<p at b1;have eQ:∀w,Row p d w→sig (tlv p d) ⟨p,zeros d,xT d⟩ w=w:=fun w hw=>by
     have dc:∀c∈xT d,Row p d c:=fun c hc=>by obtain⟨k,hk,rfl⟩:=Jj.1 hc;rw[zAA];exact⟨yE _ _,by grind[zS]⟩
     unfold sig;rw[zGT,zDL (S:=Row p d) (m':=adv p d) (by omega) (fun _ _ _ _=>tR (by omega)) (xT d) w _ dc (xF (by omega)),zGU (by omega) (xT d) w _ (by rw[hw.1];simp[xT]) (fun i hi=>(hw.2 i (by rw[←hw.1];exact hi)).1) (xF (by omega))]
     conv=>rhs;rw[wT hw.1]
     refine yD fun j hj=>?_
     have eI:(xT d).length=d:=by simp[xT]
     have:=hw.2 j hj;rw[eI,uB,Kw,zB8 (k:=j) hj (fun k hk gf=>by rw[zDM hk hj,if_neg (Ne.symm gf),H3]),zDM hj hj,if_pos rfl,Lq,Jz this.1 (by omega)]
    have ez:∀k,iter k (sig (tlv p d) ⟨p,zeros d,xT d⟩) u=u:=by grind[zIe]
    show mul (⟨p,zeros d,xT d⟩::tlv p d) (a::u) (b::v)=_;rw[yQ,ez,ih u v hu3 pH];have hz:adv p d (zeros d) (adv p d u v)=adv p d u v:=by
     refine yD fun j hj=>?_
     rw[zS hj,uB,Kw,Jr]
    rw[ih _ _ (xF (by omega)) (tR (by omega)),hz];have ak:adv p (d+1) (a::u) (b::v)=(a+b)%p::adv p d u v:=by
     simp only[adv,mkv,Q5,Jl,Ud]
     congr 1
    rw[ak];split
    ·next g=>
     have g:a+b≥p:=g;have e:(a+b)%p=a+b-p:=by rw[show a+b=(a+b-p)+p from by omega,Ui,Jz (by omega) (by omega)];omega
     grind
    ·next g=>
     have g:¬a+b≥p:=g
     congr 1
     exact(Jz (by omega) (by omega)).symm
end Go.Pl

namespace Go.Pl
open Go Go.Ab Go.Wk Go.Pc
theorem zPx{α:Type}{m:α→α→α}:∀(c1:List α)(y:Vec)(c2:List α)(u:Vec)(acc:α),c1.length=y.length→img m (c1++c2) (y++u) acc=img m c2 u (img m c1 y acc)
 | [],[],_,_,_,_=>by rfl
 | [],_::_,_,_,_,h=>by simp at h
 |_::_,[],_,_,_,h=>by simp at h
 |c::c1,a::y,c2,u,acc,h=>zPx c1 y c2 u _ (by grind)
theorem zIm{α β:Type}{S:α→Prop}{m:α→α→α}{n:β→β→β}(φ:α→β)(hS:∀a b,S a→S b→S (m a b))(hm:∀a b,S a→S b→φ (m a b)=n (φ a) (φ b)):∀(cs:List α)(v:Vec)(a:α),(∀c∈cs,S c)→S a→φ (img m cs v a)=img n (cs.map φ) v (φ a)
 | [],v,a,_,_=>by rfl
 |_::_,[],_,_,_=>rfl
 |c::cs,t::v,a,hc,ha=>by
  have pC:=hc c (by simp);have e:∀k a,S a→φ (iter k (fun w=>m w c) a)=iter k (fun w=>n w (φ c)) (φ a)∧S (iter k (fun w=>m w c) a):=by
   intro k
   induction k with
   |zero=>intro a ha;exact⟨rfl,ha⟩
   |succ k ih=>
    intro a ha;have:=ih (m a c) (hS _ _ ha pC);rw[hm a c ha pC]at this;exact this
  show φ (img m cs v (iter t.toNat (fun w=>m w c) a))=img n (cs.map φ) v (iter t.toNat (fun w=>n w (φ c)) (φ a));rw[←(e _ a ha).1];exact zIm φ hS hm cs v _ (by grind) (e _ a ha).2
theorem qK{p:Int}{D:Nat}{r:List Int}(hr:Row p D r):xL p D r (idM D)=r:=by
 conv=>rhs;rw[wT hr.1]
 refine yD fun j hj=>?_
 have:=hr.2 j hj;have e:∀l,l<D→ent (idM D) l j=if j=l then 1 else 0:=fun l hl=>by rw[ent,zDE hl,zS hj]
 rw[zB8 (k:=j) hj (by grind),e j hj,if_pos rfl,Lq,tC this]
theorem zDN{p:Int}{D:Nat}{r:List Int}{A B:Mx}(hA:A.length=D):xL p D (xL p D r A) B=xL p D r (PM p D A B):=by
 refine yD fun j hj=>?_
 have e1:S D (fun l=>at0 (xL p D r A) l*ent B l j)%p=S D (fun l=>S D (fun i=>at0 r i*ent A i l)*ent B l j)%p:=zAP (by grind[xL,zS,Jk,Jr]);have e2:S D (fun l=>at0 r l*ent (PM p D A B) l j)%p=S D (fun i=>at0 r i*S D (fun l=>ent A i l*ent B l j))%p:=zAP (by grind[zNq,Jk,Jr]);rw[e1,e2]
 congr 1
 have e3:S D (fun l=>S D (fun i=>at0 r i*ent A i l)*ent B l j)=S D (fun l=>S D (fun i=>at0 r i*ent A i l*ent B l j)):=wK (by grind[zL9]);rw[e3,zHP];refine wK fun i _=>?_
 rw[←zBo];exact wK (by grind)
theorem wV{p:Int}{D:Nat}{v:List Int}(hv:Row p D v):adv p D (zeros D) v=v:=by
 conv=>rhs;rw[wT hv.1]
 refine yD fun j hj=>?_
 rw[uB,Kw,tC (hv.2 j hj)]
theorem zBs{p:Int}{D:Nat}{v:List Int}(hv:Row p D v):adv p D v (zeros D)=v:=by
 conv=>rhs;rw[wT hv.1]
 refine yD fun j hj=>?_
 rw[uB,Lw,tC (hv.2 j hj)]
theorem zS9{p:Int}{D:Nat}{acc v:List Int}{A:Mx}(hl:A.length=D):(mkv D fun j=>(at0 acc j+S A.length fun k=>at0 v k*ent A k j)%p)=adv p D acc (xL p D v A):=by grind[yD,xL,zS,Ja7]
theorem uC{p:Int}{D:Nat}{u v:List Int}:adv p D u v=adv p D v u:=by grind
theorem zVP{p:Int}{D:Nat}{u v w:List Int}(hv:Row p D v)(hw:Row p D w):adv p D u v=adv p D u w↔v=w:=by
 constructor
 ·intro h
  rw[wT hv.1,wT hw.1];refine yD fun j hj=>?_
  have e:at0 (adv p D u v) j=at0 (adv p D u w) j:=by rw[h]
  rw[adv,adv,zS hj,zS hj]at e;have h1:=hv.2 j hj;have h2:=hw.2 j hj;have h3:=Int.emod_emod_of_dvd (at0 u j+at0 v j) (Int.dvd_refl p);have e4:(at0 u j+at0 v j-at0 u j)%p=(at0 u j+at0 w j-at0 u j)%p:=by rw[Gf,e,←Gf]
  rw[show at0 u j+at0 v j-at0 u j=at0 v j from by omega,show at0 u j+at0 w j-at0 u j=at0 w j from by omega,tC h1,tC h2]at e4;exact e4
 grind
section
variable {D:Nat}{x:SPr}{m:zC}{T:Mx} (h:Pres x) (hE:ExB x.zA.length D x m T) (hT:∀i,i<T.length→Row m.Prime D (T.getD i []))
 include h hE hT
theorem zC7:∀(d k:Nat),x.zA.length≤k→k+d=x.zA.length+D→suf (exx D x m T) k=tlv m.Prime d
 |0,k,hk,hd=>by rw[vQ (by grind[xU])];rfl
 |d+1,k,hk,hd=>by
  have hl:=xU h hE hT;rw[yC (by omega),zC7 d (k+1) (by omega) (by omega),tlv]
  congr 1
  have hP:(exx D x m T).zJ.getD k []=exP x.zA.length D x T k:=xR (by omega);have hC:(exx D x m T).zB.getD k []=exC x.zA.length D x m T k:=by
   show(gl (x.zA.length+D) (exC x.zA.length D x m T)).getD k []=_
   grind
  unfold lvl;rw[hP,hC,exP,exC,if_neg (by omega),if_neg (by omega),zC6 h hE hT hk (by omega),L4,show x.zA.length+D-(k+1)=d from by omega]
  congr 1
  rw[unC,xT,gl,Ud,show x.zA.length+D-1-k=d from by omega];refine Gv fun j hj=>?_
  have hj:=Lf.1 hj;show(tF (x.zA.length+D) (k+1+j)).drop (k+1)=xD d j;rw[tF,zIk,zAA,show x.zA.length+D-(k+1)=d from by omega];simp
theorem sZ:∀(d k:Nat),k+d=x.zA.length→ ∀v,V (suf (exx D x m T) k) v↔ ∃y u,v=y++u∧V (suf x k) y∧Row m.Prime D u
 |0,k,hk,v=>by
  rw[zC7 h hE hT D k (by omega) (by omega),zGz,vQ (x:=x) (k:=k) (by omega)];constructor
  ·intro g;exact⟨[],v,rfl,rfl,g⟩
  ·rintro⟨y,u,rfl,hy,hu⟩
   obtain rfl:y=[]:=hy;exact hu
 |d+1,k,hk,v=>by
  have hl:=xU h hE hT;have ih:=sZ d (k+1) (by omega);rw[yC (x:=exx D x m T) (by omega),yC (x:=x) (by omega)];cases v with
  |nil=>
   refine⟨fun g=>g.elim,?_⟩
   rintro⟨y,u,e,hy,hu⟩
   cases y with
   |nil=>exact hy.elim
   |cons a y=>simp at e
  |cons a v=>
   show((0≤a∧a<(lvl (exx D x m T) k).o)∧V (suf (exx D x m T) (k+1)) v)↔_;rw[zFn h hE hT (by omega),ih v];constructor
   ·rintro⟨g,y,u,rfl,hy,hu⟩
    exact⟨a::y,u,rfl,⟨g,hy⟩,hu⟩
   ·rintro⟨y,u,e,hy,hu⟩
    cases y with
    |nil=>exact hy.elim
    |cons b y=>
     simp only[K9,Qt.injEq]at e;obtain⟨rfl,rfl⟩:=e;exact⟨hy.1,y,u,rfl,hy.2,hu⟩
theorem zFo:∀(d k:Nat),k+d=x.zA.length→ ∀y u r,V (suf x k) y→Row m.Prime D u→Row m.Prime D r→mul (suf (exx D x m T) k) (y++u) (zeros d++r)=y++adv m.Prime D u r
 |0,k,hk,y,u,r,hy,hu,hr=>by have hp:=hE.m.p.pos;rw[vQ (x:=x) (k:=k) (by omega)]at hy;obtain rfl:y=[]:=hy;rw[zC7 h hE hT D k (by omega) (by omega)];exact zAw (by omega) D u r hu hr
 |d+1,k,hk,y,u,r,hy,hu,hr=>by
  have hl:=xU h hE hT;rw[yC (x:=x) (by omega)]at hy;cases y with
  |nil=>exact hy.elim
  |cons a y=>
   obtain⟨⟨a0,a1⟩,hy⟩:=hy;change a<at0 x.zA k at a1;rw[yC (x:=exx D x m T) (by omega)];show mul _ (a::(y++u)) (0::(zeros d++r))=_;rw[yQ,zFn h hE hT (by omega),if_neg (by omega)];show(a+0)::mul _ (y++u) (zeros d++r)=_;rw[zFo d (k+1) (by omega) y u r hy hu hr,Lw];rfl
theorem uS{k:Nat}(hk:k≤x.zA.length+D):Pc.Ok (suf (exx D x m T) k):=(zFm h hE hT).okAt (by grind[xU])
theorem zND{d k:Nat}(hk:k+d=x.zA.length):∀(rs:List Vec)(v:Vec)(y u:Vec),(∀r∈rs,Row m.Prime D r)→V (suf x k) y→Row m.Prime D u→img (mul (suf (exx D x m T) k)) (rs.map fun r=>zeros d++r) v (y++u)=y++img (adv m.Prime D) rs v u
 | [],v,y,u,_,_,_=>by rfl
 |_::_,[],_,_,_,_,_=>rfl
 |c::rs,t::v,y,u,hr,hy,hu=>by
  have hp:=hE.m.p.pos;have hc:=hr c (by simp);have e:∀q u,Row m.Prime D u→iter q (fun w=>mul (suf (exx D x m T) k) w (zeros d++c)) (y++u)=y++iter q (fun w=>adv m.Prime D w c) u:=by
   intro q
   induction q with
   |zero=>intro u _;rfl
   |succ q ih=>
    intro u hu;show iter q _ (mul _ (y++u) (zeros d++c))=_;rw[zFo h hE hT d k hk y u c hy hu hc,ih _ (tR (by omega))];rfl
  show img _ (rs.map fun r=>zeros d++r) v (iter t.toNat (fun w=>mul (suf (exx D x m T) k) w (zeros d++c)) (y++u))=_;rw[e _ _ hu,zND hk rs v y _ (by grind) hy (vP (S:=Row m.Prime D) (fun _ _=>tR (by omega)) _ hu)];rfl
theorem zZ3{k:Nat}(hk:k<x.zA.length):(gl D fun j=>(m.zE.getD k []).getD j [])=m.zE.getD k []:=by
 have _:=h;have _:=hT;have hl:=(hE.m.mat k hk).1;apply Kk
 grind
def sgG(D:Nat)(x:SPr)(m:zC)(T:Mx)(k:Nat)(y:Vec):Vec:=img (mul (suf (exx D x m T) (k+1))) (eC1 x T k) y (zeros (suf (exx D x m T) (k+1)).length)
theorem zBa{k:Nat}:(eC1 x T k).length=x.zA.length-1-k:=by have _:=h;have _:=hE;have _:=hT;grind[eC1]
theorem zSA{k:Nat}(hk:k<x.zA.length):∀c∈eC1 x T k,V (suf (exx D x m T) (k+1)) c:=by intro c hc;have ok:=uS h hE hT (k:=k) (by omega);rw[yC (by grind[xU])]at ok;exact ok.2.2.2.1 c (by grind[zE1])
theorem zDu{k:Nat}(hk:k≤x.zA.length):zeros (suf (exx D x m T) k).length=zeros (x.zA.length-k)++zeros D:=by grind[yI,xU,zeros,Jd]
theorem zJ6{k:Nat}(hk:k<x.zA.length){y:Vec}:V (suf (exx D x m T) (k+1)) (sgG D x m T k y):=by have ok:=uS h hE hT (k:=k+1) (by omega);exact jZ (yY ok) _ _ (zSA h hE hT hk) (wJ ok)
theorem zE2{k:Nat}(hk:k<x.zA.length){y u:Vec}(hy:V (suf x (k+1)) y)(hu:Row m.Prime D u):
  sig (suf (exx D x m T) (k+1)) (lvl (exx D x m T) k) (y++u)=(sgG D x m T k y).take (x.zA.length-(k+1))++adv m.Prime D ((sgG D x m T k y).drop (x.zA.length-(k+1))) (xL m.Prime D u (m.zE.getD k [])):=by
 have hp:=hE.m.p.pos;have hA:=hE.m.mat k hk;have er:=vR h (by omega) hy;unfold sig;rw[zE1 h hE hT hk,zPx _ _ _ _ _ (by grind[zBa])];show img _ (eC2 x m D k) u (sgG D x m T k y)=_;obtain⟨y1,u1,e,fq,ck⟩:=(sZ h hE hT (x.zA.length-(k+1)) (k+1) (by omega) _).1 (zJ6 h hE hT hk (y:=y));have eu:=vR h (by omega) fq;rw[e,eC2,zZ3 h hE hT hk,show x.zA.length-1-k=x.zA.length-(k+1)from by omega,zND h hE hT (by omega) _ _ _ _ (fun r hr=>?_) fq ck,zGU (by omega) _ _ _ (by rw[hA.1,hu.1]) (fun i hi=>(hu.2 i (by rw[←hu.1];exact hi)).1) ck,zS9 hA.1,Jq eu,K1 eu];obtain⟨j,hj,rfl⟩:=Jt.1 hr;have fL:=hA.1;have:=hA.2 j (by omega)
 grind
theorem zGV{k:Nat}(hk:k<x.zA.length){u:Vec}(hu:Row m.Prime D u):
  sig (suf (exx D x m T) (k+1)) (lvl (exx D x m T) k) (zeros (x.zA.length-(k+1))++u)=zeros (x.zA.length-(k+1))++xL m.Prime D u (m.zE.getD k []):=by
 have hp:=hE.m.p.pos;have ok:=h.okAt (k:=k+1) (by omega);have hz:=wJ ok;rw[yI]at hz;have e:sgG D x m T k (zeros (x.zA.length-(k+1)))=zeros (x.zA.length-(k+1))++zeros D:=by grind[sgG,sQ,zDu]
 rw[zE2 h hE hT hk hz hu,e,Jq (zR _),K1 (zR _),wV (wU (by omega))]
theorem zIn{k:Nat}(hk:k<x.zA.length):∀(q:Nat){u:Vec},Row m.Prime D u→
  iter q (sig (suf (exx D x m T) (k+1)) (lvl (exx D x m T) k)) (zeros (x.zA.length-(k+1))++u)=zeros (x.zA.length-(k+1))++iter q (fun u=>xL m.Prime D u (m.zE.getD k [])) u
 |0,u,_=>rfl
 |q+1,u,hu=>by have hp:=hE.m.p.pos;show iter q _ (sig _ _ _)=_;rw[zGV h hE hT hk hu,zIn hk q (wU (by omega))];rfl
end
end Go.Pl

namespace Go.Pl
open Go Go.Ab Go.Wk Go.Pc
theorem zFY{p:Int}{D:Nat}{A:Mx}(hA:Mat p D A)(hp:2≤p){r:List Int}(hr:Row p D r):∀q,iter q (fun u=>xL p D u A) r=xL p D r (pw (PM p D) (idM D) A q)
 |0=>(qK hr).symm
 |q+1=>by
  have hm:Mat p D (pw (PM p D) (idM D) A q):=vP (S:=Mat p D) (fun _ hB=>zDl (by omega) hB.1) q (sS hp);unfold pw at*
  rw[vO,vO,zFY hA hp hr q];exact zDN hm.1
theorem zSB{p:Int}{D:Nat}(hp:0<p){r:List Int}:iter p.toNat (fun w=>adv p D w r) (zeros D)=zeros D:=by
 rw[zIl hp _ _ (xF hp)];rw[show zeros D=mkv D fun _=>0 from uO D];refine yD fun j hj=>?_
 rw[zS hj,Qa (by omega),Kw,Int.mul_emod_right]
theorem qW{p:Int}{D:Nat}{A:Mx}:xL p D (zeros D) A=zeros D:=by
 rw[show zeros D=mkv D fun _=>0 from uO D];refine yD fun j hj=>?_
 rw[wK (g:=fun _=>0) fun l hl=>by rw[zS hl,Ge],kD,Q9]
theorem zQ1{p:Int}{D q:Nat}{A:Mx}(hq:q<D)(hA:Mat p D A):xL p D (xD D q) A=A.getD q []:=by
 have hr:=hA.2 q hq
 conv=>rhs;rw[wT hr.1]
 refine yD fun j hj=>?_
 rw[zAA,zB8 (k:=q) hq (fun i hi gf=>by rw[zS hi,if_neg gf,Ge]),zS hq,if_pos rfl,Hc,tC (hr.2 j hj)]
theorem tZ{p:Int}{D q:Nat}(hp:2≤p):Row p D (xD D q):=by rw[zAA];exact⟨yE _ _,by grind[zS]⟩
theorem zLX{N D q:Nat}(hq:q<D):xD (N+D) (N+q)=zeros N++xD D q:=by
 rw[zAX (by omega),zAX hq,←Jh]
 grind[zeros,Jd]
def aM(m:zC)(D k:Nat)(v:Vec):Mx:=img (PM m.Prime D) (m.zE.drop k) v (idM D)
theorem zSC{p:Int}{D:Nat}(hp:2≤p):Mon (Mat p D) (PM p D) (idM D):=
 ⟨fun ha _=>zDl (by omega) ha.1,sS (by omega),fun ha hb _=>zLA ha.1 hb.1,fun ha=>zB9 ha,fun ha=>zDm ha⟩
section
variable {D:Nat}{x:SPr}{m:zC}{T:Mx} (h:Pres x) (hE:ExB x.zA.length D x m T) (hT:∀i,i<T.length→Row m.Prime D (T.getD i []))
 include h hE hT
theorem zSD{k:Nat}(hk:k<x.zA.length):(eC1 x T k).map (·.take (x.zA.length-(k+1)))=(lvl x k).cs:=by
 have _:=hE;have _:=hT;have gD:=zBd h.w hk;apply Kk;intro j
 by_cases g:j<x.zA.length-(k+1)
 ·obtain⟨c,_,_,c3,c4⟩:=zEW h hk g
  have hl:=vR h (by omega) c3;have e1:((eC1 x T k).map (·.take (x.zA.length-(k+1))))[j]? =iz (((lvl x k).cs.getD j []++T.getD (base x.zA.length k+j) []).take (x.zA.length-(k+1))):=by simp[eC1,gl,show j<x.zA.length-1-k by omega]
  grind
 ·rw[Ku (by simp[eC1,gl];omega),Ku (by omega)]
theorem zLY{k:Nat}(hk:k<x.zA.length):m.zE.drop k=m.zE.getD k []::m.zE.drop (k+1):=by
 have _:=h;have _:=hT;have hl:=hE.m.len
 grind[G8]
theorem zVQ{k:Nat}(hk:k<x.zA.length){b:Int}{y:Vec}:aM m D k (b::y)=PM m.Prime D (pw (PM m.Prime D) (idM D) (m.zE.getD k []) b.toNat) (aM m D (k+1) y):=by
 have M:=zSC hE.m.p.pos.1 (D:=D);unfold aM;rw[zLY h hE hT hk];refine qI M (hE.m.mat k hk) fun c hc=>?_
 obtain⟨i,hi,rfl⟩:=Jt.1 (List.mem_of_mem_drop hc);have:=hE.m.mat i (by rw[←hE.m.len];exact hi)
 grind
theorem pwM{k q:Nat}(hk:k<x.zA.length):Mat m.Prime D (pw (PM m.Prime D) (idM D) (m.zE.getD k []) q):=by have _:=h;have _:=hT;have _:=hk;have hp:=hE.m.p.pos;exact vP (S:=Mat m.Prime D) (fun _ hB=>zDl (by omega) hB.1) q (sS (by omega))
theorem zPy:∀(d k:Nat),k+d=x.zA.length→ ∀r y v,Row m.Prime D r→V (suf x k) y→Row m.Prime D v→mul (suf (exx D x m T) k) (zeros d++r) (y++v)=y++adv m.Prime D (xL m.Prime D r (aM m D k y)) v
 |0,k,hk,r,y,v,hr,hy,hv=>by
  have hp:=hE.m.p.pos;rw[vQ (x:=x) (k:=k) (by omega)]at hy;obtain rfl:y=[]:=hy;rw[zC7 h hE hT D k (by omega) (by omega)];have e:aM m D k []=idM D:=by unfold aM;cases m.zE.drop k<;>rfl
  rw[e,qK hr];exact zAw (by omega) D r v hr hv
 |d+1,k,hk,r,y,v,hr,hy,hv=>by
  have hl:=xU h hE hT;have hp:=hE.m.p.pos;have hA:=hE.m.mat k (by omega);rw[yC (x:=x) (by omega)]at hy;cases y with
  |nil=>exact hy.elim
  |cons b y=>
   obtain⟨⟨b0,b1⟩,hy⟩:=hy;change b<at0 x.zA k at b1;rw[yC (x:=exx D x m T) (by omega)];show mul _ (0::(zeros d++r)) (b::(y++v))=_;have e:=zIn h hE hT (k:=k) (by omega) b.toNat hr;rw[show x.zA.length-(k+1)=d from by omega]at e;rw[yQ,zFn h hE hT (by omega),if_neg (by omega),e,zFY hA (by omega) hr,zPy d (k+1) (by omega) _ y v (wU (by omega)) hy hv,Kw,zVQ h hE hT (by omega),←zDN (pwM h hE hT (by omega)).1];rfl
theorem zLZ{k:Nat}(hk:k<x.zA.length)(ih:∀a b,V (suf (exx D x m T) (k+1)) a→V (suf (exx D x m T) (k+1)) b→(mul (suf (exx D x m T) (k+1)) a b).take (x.zA.length-(k+1))=mul (suf x (k+1)) (a.take (x.zA.length-(k+1))) (b.take (x.zA.length-(k+1)))){v:Vec}(hv:V (suf (exx D x m T) (k+1)) v):
  (sig (suf (exx D x m T) (k+1)) (lvl (exx D x m T) k) v).take (x.zA.length-(k+1))=sig (suf x (k+1)) (lvl x k) (v.take (x.zA.length-(k+1))):=by
 have ok:=uS h hE hT (k:=k+1) (by omega);obtain⟨y,u,rfl,hy,hu⟩:=(sZ h hE hT (x.zA.length-(k+1)) (k+1) (by omega) _).1 hv;have er:=vR h (by omega) hy;obtain⟨y1,u1,e,fq,ck⟩:=(sZ h hE hT (x.zA.length-(k+1)) (k+1) (by omega) _).1 (zJ6 h hE hT hk (y:=y));have eu:=vR h (by omega) fq;rw[zE2 h hE hT hk hy hu,Jq (by grind),Jq er];unfold sgG sig;rw[zIm (S:=V (suf (exx D x m T) (k+1))) (n:=mul (suf x (k+1))) (·.take (x.zA.length-(k+1))) (fun a b=>yY ok) ih _ _ _ (zSA h hE hT hk) (wJ ok),zSD h hE hT hk,zDu h hE hT (by omega),Jq (zR _),yI]
theorem zKx:∀(d k:Nat),k+d=x.zA.length→ ∀a b,V (suf (exx D x m T) k) a→V (suf (exx D x m T) k) b→(mul (suf (exx D x m T) k) a b).take d=mul (suf x k) (a.take d) (b.take d)
 |0,k,hk,a,b,_,_=>by rw[vQ (x:=x) (by omega),Ko];rfl
 |d+1,k,hk,a,b,ha,hb=>by
  have hl:=xU h hE hT;have ih:=zKx d (k+1) (by omega);have hd:d=x.zA.length-(k+1):=by omega
  have ok:=uS h hE hT (k:=k+1) (by omega);have ok0:=uS h hE hT (k:=k) (by omega);rw[hd]at ih;have hs:=fun v hv=>zLZ h hE hT (k:=k) (by omega) ih (v:=v) hv
  rw[yC (x:=exx D x m T) (by omega)]at ha hb ok0 ⊢
  rw[yC (x:=x) (by omega)];cases a with
  |nil=>rfl
  |cons a u=>
  cases b with
  |nil=>rfl
  |cons b v=>
   have ez:∀q u,V (suf (exx D x m T) (k+1)) u→(iter q (sig (suf (exx D x m T) (k+1)) (lvl (exx D x m T) k)) u).take d=iter q (sig (suf x (k+1)) (lvl x k)) (u.take d)∧V (suf (exx D x m T) (k+1)) (iter q (sig (suf (exx D x m T) (k+1)) (lvl (exx D x m T) k)) u):=by
    intro q
    induction q with
    |zero=>intro u hu;exact⟨rfl,hu⟩
    |succ q ihq=>
     intro u hu;have:=ihq _ (zDc ok0 hu);rw[hd,hs u hu]at this;rw[hd];exact this
   obtain⟨hi1,fR⟩:=ez b.toNat u ha.2;have hm:=yY ok fR hb.2;rw[yQ,Ky,Ky,yQ,zFn h hE hT (by omega),show(lvl x k).o=at0 x.zA k from rfl];have e1:=ih _ _ fR hb.2;rw[←hd,hi1]at e1;split
   ·rw[Ky]
    have e2:=ih _ _ ok0.2.1 hm;rw[←hd,e1]at e2;rw[e2]
    congr 2
    have ht:=(h.tl k (by omega)).1;have hw:=zB7 ht (by omega);have hwl:(lvl x k).w.length=x.zA.length-(k+1):=vR h (by omega) hw;rw[zLW h hE hT (by omega),Jq (by omega)]
   grind
end
end Go.Pl

namespace Go.Pl
open Go Go.Ab Go.Wk Go.Pc
theorem zQ2{p:Int}{d:Nat}(hp:2≤p):∀c∈xT d,Row p d c:=fun c hc=>by obtain⟨k,_,rfl⟩:=Jj.1 hc;exact tZ hp
theorem zVR{p:Int}(hp:2≤p){d:Nat}{w:Vec}(hw:Row p d w):sig (tlv p d) ⟨p,zeros d,xT d⟩ w=w:=by
 unfold sig;rw[zGT,zDL (S:=Row p d) (m':=adv p d) (by grind[zAw]) (fun _ _ _ _=>tR (by omega)) (xT d) w _ (zQ2 hp) (xF (by omega)),zGU (by omega) (xT d) w _ (by rw[hw.1];simp[xT]) (fun i hi=>(hw.2 i (by rw[←hw.1];exact hi)).1) (xF (by omega))]
 conv=>rhs;rw[wT hw.1]
 refine yD fun j hj=>?_
 have eI:(xT d).length=d:=by simp[xT]
 rw[eI,uB,Kw,zB8 (k:=j) hj (fun k hk gf=>by rw[zDM hk hj,if_neg (Ne.symm gf),H3]),zDM hj hj,if_pos rfl,Lq,tC (hw.2 j hj)]
structure LCn (x e:SPr) (k:Nat):Prop where
 c1:∀j,k+1≤j→j<x.zA.length→pw (mul (suf e (k+1))) (zeros (suf e (k+1)).length) ((lvl e k).cs.getD (j-(k+1)) []) (at0 e.zA j).toNat=sig (suf e (k+1)) (lvl e k) ((e.zJ.getD j []).drop (k+1))
 c2:∀i,k+1≤i→i<x.zA.length→ ∀j,i+1≤j→j<x.zA.length→
  mul (suf e (k+1)) ((lvl e k).cs.getD (j-(k+1)) []) ((lvl e k).cs.getD (i-(k+1)) [])=mul (suf e (k+1)) ((lvl e k).cs.getD (i-(k+1)) []) (sig (suf e (k+1)) (lvl e k) (((e.zB.getD i []).getD (j-(i+1)) []).drop (k+1)))
 c3:sig (suf e (k+1)) (lvl e k) (lvl e k).w=(lvl e k).w
 c4:∀j,k+1≤j→j<x.zA.length→mul (suf e (k+1)) (lvl e k).w (iter (lvl e k).o.toNat (sig (suf e (k+1)) (lvl e k)) (xD (e.zA.length-(k+1)) (j-(k+1))))=mul (suf e (k+1)) (xD (e.zA.length-(k+1)) (j-(k+1))) (lvl e k).w
section
variable {D:Nat}{x:SPr}{m:zC}{T:Mx} (h:Pres x) (hE:ExB x.zA.length D x m T) (hT:∀i,i<T.length→Row m.Prime D (T.getD i []))
 include h hE hT
theorem zSE{k j:Nat}(hk:k<x.zA.length)(hj:x.zA.length≤j)(h2:j<x.zA.length+D):(lvl (exx D x m T) k).cs.getD (j-(k+1)) []=zeros (x.zA.length-(k+1))++(m.zE.getD k []).getD (j-x.zA.length) []:=by
 rw[zE1 h hE hT hk,J2,Jb (by grind[zBa]),zBa h hE hT,eC2]
 grind
theorem zMa{k j:Nat}(hk:k<x.zA.length)(hj:k+1≤j)(h2:j<x.zA.length):(lvl (exx D x m T) k).cs.getD (j-(k+1)) []=(lvl x k).cs.getD (j-(k+1)) []++T.getD (base x.zA.length k+(j-(k+1))) []:=by
 rw[zE1 h hE hT hk,J2,K5 (by grind[zBa]),eC1]
 grind
theorem zFp{i j:Nat}(hi:i<j)(hj:j<x.zA.length):Row m.Prime D (T.getD (base x.zA.length i+(j-(i+1))) []):=by have _:=h;have hn:=hE.hn;have hb:=zGP x.zA.length (by omega) i (by omega);exact hT _ (by rw[hE.t];omega)
theorem zDv{i:Nat}(hi:i<x.zA.length):Row m.Prime D (T.getD i []):=by have _:=h;have hn:=hE.hn;have hb:=tG x.zA.length (by omega);exact hT _ (by rw[hE.t];omega)
theorem zIo{k j:Nat}(hj:k≤j)(h2:j<x.zA.length):((exx D x m T).zJ.getD j []).drop (k+1)=(x.zJ.getD j []).drop (k+1)++T.getD j []:=by have t1:=(h.tl j h2).1.1.1;have _:=hE;have _:=hT;have hP:(exx D x m T).zJ.getD j []=exP x.zA.length D x T j:=xR (by omega);rw[hP,exP,if_pos h2,Kg (by omega)]
theorem zZ4{k j:Nat}(hk:k<x.zA.length)(hj:x.zA.length≤j)(h2:j<x.zA.length+D):((exx D x m T).zJ.getD j []).drop (k+1)=zeros (x.zA.length-(k+1))++zeros D:=by
 have _:=h;have _:=hE;have _:=hT;have hP:(exx D x m T).zJ.getD j []=exP x.zA.length D x T j:=xR (by omega);rw[hP,exP,if_neg (by omega),L4]
 grind[zeros,Jd]
theorem zIp{i:Nat}(hi:i<x.zA.length+D):(exx D x m T).zB.getD i []=exC x.zA.length D x m T i:=by
 have _:=h;have _:=hE;have _:=hT;show(gl (x.zA.length+D) (exC x.zA.length D x m T)).getD i []=_
 grind
theorem zKy{k i j:Nat}(hk:k≤i)(hi:i<j)(hj:j<x.zA.length):(((exx D x m T).zB.getD i []).getD (j-(i+1)) []).drop (k+1)=((x.zB.getD i []).getD (j-(i+1)) []).drop (k+1)++T.getD (base x.zA.length i+(j-(i+1))) []:=by obtain⟨_,t2,t3⟩:=h.tl i (by omega);have t:=(t3 (j-(i+1)) (by omega)).1.1;rw[zIp h hE hT (by omega),exC,if_pos (by omega),xR (by omega),exF,if_pos (by omega),Kg (by omega)]
theorem zZ5{k i j:Nat}(hk:k<x.zA.length)(hi:i<x.zA.length)(hj:x.zA.length≤j)(h2:j<x.zA.length+D):(((exx D x m T).zB.getD i []).getD (j-(i+1)) []).drop (k+1)=zeros (x.zA.length-(k+1))++(m.zE.getD i []).getD (j-x.zA.length) []:=by rw[zIp h hE hT (by omega),exC,if_pos (by omega),xR (by omega),exF,if_neg (by omega),Kg (by simp;omega),L4,show j-(i+1)-(x.zA.length-1-i)=j-x.zA.length from by omega];rfl
theorem zZ6{k i j:Nat}(hk:k<x.zA.length)(hi:x.zA.length≤i)(hj:i<j)(h2:j<x.zA.length+D):(((exx D x m T).zB.getD i []).getD (j-(i+1)) []).drop (k+1)=zeros (x.zA.length-(k+1))++xD D (j-x.zA.length):=by
 rw[zIp h hE hT (by omega),exC,if_neg (by omega),unC,xR (by omega),tF,zIk,←zLX (by omega),zAA]
 grind
theorem zVS(hr:zFS x m D){k:Nat}(hk:k<x.zA.length):pw (PM m.Prime D) (idM D) (m.zE.getD k []) (at0 x.zA k).toNat=aM m D (k+1) (lvl x k).w∧
  ∀i,k<i→i<x.zA.length→PM m.Prime D (m.zE.getD i []) (m.zE.getD k [])=PM m.Prime D (m.zE.getD k []) (aM m D (k+1) ((lvl x k).cs.getD (i-(k+1)) [])):=by
 have R:=zPu h hE.m hr (x.zA.length-k) k (by omega);rw[yC hk,zLY h hE hT hk]at R;obtain⟨r1,r2,_⟩:=R;refine⟨r1,fun i h1 h2=>?_⟩;have gD:=zBd h.w hk;have hl:=hE.m.len;refine r2 (i-(k+1)) _ _ ?_ ?_
 all_goals grind
theorem zv{k:Nat}(hk:k≤x.zA.length):V (suf x k) (zeros (x.zA.length-k)):=by
 have _:=hE;have _:=hT;have:=wJ (h.okAt hk)
 grind[yI]
theorem zSF(hr:zFS x m D){k:Nat}(hk:k<x.zA.length)(hc:LCn x (exx D x m T) k):LC (exx D x m T) k:=by
 have hp:=hE.m.p.pos;have hl:=xU h hE hT;have hA:=hE.m.mat k hk;obtain⟨r1,r2⟩:=zVS h hE hT hr hk;have hz:=zv h hE hT (k:=k+1) (by omega);have hD0:Row m.Prime D (zeros D):=xF (by omega);have hw:=(zZr h hk).2;refine⟨fun j h1 h2=>?_,fun i h1 h2 j h3 h4=>?_,hc.c3,fun j h1 h2=>?_⟩
 ·rw[hl]at h2
  rcases Jg j x.zA.length with g|g
  ·exact hc.c1 j h1 g
  ·have hq:=hA.2 (j-x.zA.length) (by omega)
   rw[zSE h hE hT hk g h2,zZ4 h hE hT hk g h2,zGV h hE hT hk hD0,qW,zC6 h hE hT g h2,zDu h hE hT (by omega)];have e:=zND h hE hT (d:=x.zA.length-(k+1)) (k:=k+1) (by omega) [(m.zE.getD k []).getD (j-x.zA.length) []] [m.Prime] _ _ (by grind) hz hD0;have e2:iter m.Prime.toNat (fun w=>adv m.Prime D w ((m.zE.getD k []).getD (j-x.zA.length) [])) (zeros D)=zeros D:=zSB (by omega);unfold pw;refine e.trans ?_;show zeros _++iter m.Prime.toNat (fun w=>adv m.Prime D w ((m.zE.getD k []).getD (j-x.zA.length) [])) (zeros D)=_;rw[e2]
 ·rw[hl]at h4
  rcases Jg j x.zA.length with g|g
  ·exact hc.c2 i h1 (by omega) j h3 g
  ·have hq:=hA.2 (j-x.zA.length) (by omega)
   rw[zSE h hE hT hk g h4];rcases Jg i x.zA.length with gi|gi
   ·have hAi:=hE.m.mat i gi
    have aG:=hAi.2 (j-x.zA.length) (by omega);have ch:=(zA5 h hk h1 gi).2.2;have ht:=zFp h hE hT (i:=k) (j:=i) (by omega) gi;rw[zMa h hE hT hk h1 gi,zZ5 h hE hT hk gi g h4,zGV h hE hT hk aG,zPy h hE hT _ (k+1) (by omega) _ _ _ hq ch ht,zFo h hE hT _ (k+1) (by omega) _ _ _ ch ht (wU (by omega)),uC]
    congr 2
    rw[←zCx (by rw[hA.1];omega),←zCx (by rw[hAi.1];omega),r2 i (by omega) gi]
   ·have aG:=hA.2 (i-x.zA.length) (by omega)
    rw[zSE h hE hT hk gi (by omega),zZ6 h hE hT hk gi (by omega) h4,zGV h hE hT hk (tZ (by omega)),zQ1 (by omega) hA,zFo h hE hT _ (k+1) (by omega) _ _ _ hz hq aG,zFo h hE hT _ (k+1) (by omega) _ _ _ hz aG hq,uC]
 ·rw[hl]at h2 ⊢
  rcases Jg j x.zA.length with g|g
  ·have:=hc.c4 j h1 g
   grind
  ·have ht:=zDv h hE hT hk
   have hu:Row m.Prime D (xD D (j-x.zA.length)):=tZ (by omega);rw[show x.zA.length+D-(k+1)=x.zA.length-(k+1)+D from by omega,show j-(k+1)=x.zA.length-(k+1)+(j-x.zA.length)from by omega,zLX (by omega),zFn h hE hT hk,zIn h hE hT hk _ hu,zLW h hE hT hk,zFY hA (by omega) hu,r1,zPy h hE hT _ (k+1) (by omega) _ _ _ hu hw ht,zFo h hE hT _ (k+1) (by omega) _ _ _ hw ht (wU (by omega)),uC]
theorem zZ7{k:Nat}(hk:x.zA.length≤k)(h2:k<x.zA.length+D):LC (exx D x m T) k:=by
 have hp:=hE.m.p.pos;have hl:=xU h hE hT;have hs:=zC7 h hE hT (x.zA.length+D-(k+1)) (k+1) (by omega) (by omega);have hL:=zC7 h hE hT (x.zA.length+D-(k+1)+1) k (by omega) (by omega);rw[yC (by omega),hs,tlv]at hL;have mu:lvl (exx D x m T) k=⟨m.Prime,zeros (x.zA.length+D-(k+1)),xT (x.zA.length+D-(k+1))⟩:=(Qt.inj hL).1
 generalize hd:x.zA.length+D-(k+1)=d at*
 have eQ:∀w,Row m.Prime d w→sig (tlv m.Prime d) ⟨m.Prime,zeros d,xT d⟩ w=w:=by grind[zVR]
 have mS:Row m.Prime d (zeros d):=xF (by omega);have df:∀j,(xT d).getD j []=if j<d then xD d j else[]:=fun j=>by
  by_cases g:j<d
  ·rw[if_pos g,zHJ g]
  ·rw[if_neg g,J2,Ku (by grind[xT])];rfl
 refine⟨fun j h1 h3=>?_,fun i h1 h3 j h4 h5=>?_,?_,fun j h1 h3=>?_⟩
 ·rw[hl]at h3
  have hP:(exx D x m T).zJ.getD j []=exP x.zA.length D x T j:=xR (by omega);rw[hs,mu,zC6 h hE hT (by omega) h3,hP,exP,if_neg (by omega),L4,hd];show pw (mul (tlv m.Prime d)) (zeros (tlv m.Prime d).length) ((xT d).getD (j-(k+1)) []) m.Prime.toNat=sig (tlv m.Prime d) ⟨m.Prime,zeros d,xT d⟩ (zeros d);rw[eQ _ mS,df,if_pos (by omega),zGT];have e:=zDL (S:=Row m.Prime d) (m':=adv m.Prime d) (fun a b ha hb=>zAw (by omega) d a b ha hb) (fun _ _ _ _=>tR (by omega)) [xD d (j-(k+1))] [m.Prime] (zeros d) (by grind[tZ]) mS;exact e.trans (zSB (by omega))
 ·rw[hl]at h3 h5
  rw[hs,mu,zIp h hE hT h3,exC,if_neg (by omega),unC,xR (by omega),tF,zIk,hd];have e:(mkv d fun q=>if k+1+q=i+1+(j-(i+1))then(1:Int)else 0)=xD d (j-(k+1)):=by
   rw[zAA]
   grind
  rw[e,eQ _ (tZ (by omega))];show mul (tlv m.Prime d) ((xT d).getD (j-(k+1)) []) ((xT d).getD (i-(k+1)) [])=mul (tlv m.Prime d) ((xT d).getD (i-(k+1)) []) (xD d (j-(k+1)));rw[df,df,if_pos (by omega),if_pos (by omega),zAw (by omega) d _ _ (tZ (by omega)) (tZ (by omega)),zAw (by omega) d _ _ (tZ (by omega)) (tZ (by omega)),uC]
 ·grind
 ·rw[hl]at h3 ⊢
  have hu:Row m.Prime d (xD d (j-(k+1))):=tZ (by omega);rw[hs,mu,hd,zIe (eQ _ hu),zAw (by omega) d _ _ mS hu,zAw (by omega) d _ _ hu mS,uC]
theorem zIq:∀(d k:Nat),x.zA.length≤k→k+d=x.zA.length+D→wH (suf (exx D x m T) k)
 |0,k,hk,hd=>by rw[vQ (by grind[xU])];simp only[wH]
 |d+1,k,hk,hd=>(zA6 (zFm h hE hT) (by rw[xU h hE hT];omega)).2 ⟨zIq d (k+1) (by omega) (by omega),by grind[zZ7]⟩
theorem zVT(hr:zFS x m D):wH (suf (exx D x m T) 0)↔ ∀k,k<x.zA.length→LCn x (exx D x m T) k:=by
 have hl:=xU h hE hT;have key:∀(d k:Nat),k+d=x.zA.length→(wH (suf (exx D x m T) k)↔ ∀i,k≤i→i<x.zA.length→LCn x (exx D x m T) i):=by
  intro d
  induction d with
  |zero=>grind[zIq]
  |succ d ih=>
   intro k hk;rw[zA6 (zFm h hE hT) (by omega),ih (k+1) (by omega)];constructor
   ·rintro⟨g1,g2⟩ i h1 h2
    rcases Jg k i with g|g
    ·grind
    ·obtain rfl:i=k:=by omega
     exact⟨fun j a b=>g2.c1 j a (by omega),fun i a b j c d=>g2.c2 i a (by omega) j c (by omega),g2.c3,fun j a b=>g2.c4 j a (by omega)⟩
   grind[zSF]
 simp_all
end
end Go.Pl

namespace Go.Pl
open Go Go.Ab Go.Wk Go.Pc
def prE(x:SPr)(k:Nat)(w:Vec):zH:=⟨fv k (w.take (x.zA.length-k)),w.drop (x.zA.length-k)⟩
theorem qM{x:SPr}{k:Nat}{y u:Vec}(hy:y.length=x.zA.length-k):prE x k (y++u)=⟨fv k y,u⟩:=by grind[prE]
theorem zC8{α α' β:Type}{body:α×α'×Int→Option ((α×α'×Int)⊕(α×α'))}{S:β→Prop}(e1:β→α)(e2:β→α')(g:β→β)(n:Int)(hn:0≤n)(hS:∀a,S a→S (g a))
  (h:∀a(i:Nat),S a→(i:Int)<n→body (e1 a,e2 a,(i:Int))=iz (.inl (e1 (g a),e2 (g a),((i+1:Nat):Int))))(he:∀a,S a→body (e1 a,e2 a,n)=iz (.inr (e1 a,e2 a))){a:β}(ha:S a):
  zG body (e1 a,e2 a,0)=iz (e1 (iter n.toNat g a),e2 (iter n.toNat g a)):=by
 have ez:∀k,S (iter k g a):=fun k=>vP (S:=S) hS k ha
 exact zQ (body:=body) (r:=(e1 (iter n.toNat g a),e2 (iter n.toNat g a))) (fun i=>(e1 (iter i g a),e2 (iter i g a),(i:Int))) n.toNat (by grind[vO]) (by grind)
structure Mv (D n:Nat) (m0 m:zC):Prop where
 pr:m0.Prime=m.Prime
 mv:∀k,k<n→ ∀u,Row m.Prime D u→zW5 m0 u (k:Int)=iz (xL m.Prime D u (m.zE.getD k []))
theorem Mv.self{n D:Nat}{m:zC}(hE:MOk n m D):Mv D n m m:=by
 refine⟨rfl,fun k hk u hu=>?_⟩;have h3:=hE.d3;have h1:=hE.d1;have hA:=hE.mat k hk;have eI:=hu.1;have hl:=hE.len;unfold zW5;have e1:zJF m u (k:Int) ([],0)=iz (.inl (xL m.Prime D u (m.zE.getD k []),(D:Int))):=by
  unfold zJF;simp only
  rw[iE (by omega),zK,hE.d,zI (by omega) (by omega),bs,Kw];have fU:zO u 0 (D:Int)=iz u:=by
   unfold zO;rw[if_pos (by omega)]
   congr 1
   rw[show((D:Int)).toNat=D from by omega,show(0:Int).toNat=0 from rfl,Hw,Jm (by omega)]
  rw[fU,bs,zX [] (by omega),bs,zEx hE.p (by omega) hu hA,bs,zY (by grind[xL,yE]),bs,bs,Ju]
 have e2:zJF m u (k:Int) (xL m.Prime D u (m.zE.getD k []),(D:Int))=iz (.inr (xL m.Prime D u (m.zE.getD k []))):=by
  unfold zJF
  simp_all
 grind[yV]
section
variable {D:Nat}{x:SPr}{m0 m:zC}{T:Mx} (h:Pres x) (hE:ExB x.zA.length D x m T) (hT:∀i,i<T.length→Row m.Prime D (T.getD i []))
def zSG(D:Nat)(x:SPr)(m0 m:zC)(T:Mx)(k:Nat)(g:zN→Int→zH→zH→Option zH):Prop:=
 ∀a b,V (suf (exx D x m T) k) a→V (suf (exx D x m T) k) b→g ⟨x,m0,T⟩ k (prE x k a) (prE x k b)=iz (prE x k (mul (suf (exx D x m T) k) a b))
def zSH(D:Nat)(x:SPr)(m0 m:zC)(T:Mx)(k:Nat)(g:zN→Int→zH→Option zH):Prop:=
 ∀v,V (suf (exx D x m T) (k+1)) v→g ⟨x,m0,T⟩ k (prE x (k+1) v)=iz (prE x (k+1) (sig (suf (exx D x m T) (k+1)) (lvl (exx D x m T) k) v))
 include h hE hT
theorem zPz{k i j:Nat}(hk:k≤i)(hi:i<j)(hj:j<x.zA.length):zKA ⟨x,m0,T⟩ (i:Int) (j:Int)=iz (prE x (k+1) ((((exx D x m T).zB.getD i []).getD (j-(i+1)) []).drop (k+1)))∧V (suf (exx D x m T) (k+1)) ((((exx D x m T).zB.getD i []).getD (j-(i+1)) []).drop (k+1)):=by
 have hn:=hE.hn;have hb:=zGP x.zA.length (by omega) i (by omega);have ht:=hE.t;obtain⟨_,t2,t3⟩:=h.tl i (by omega);have tt:=t3 (j-(i+1)) (by omega);obtain⟨e1,e2⟩:=zDj (k:=k+1) tt (by omega) (by omega);have hl:=vR h (by omega) e2;have gD:=h.cl;have hr:=zFp h hE hT hi hj;refine⟨?_,?_⟩
 ·rw[zKy h hE hT hk hi hj,qM hl,←e1]
  unfold zKA;dsimp only
  rw[zX [] (by omega),bs,zI (by omega) (by omega),bs,zI (by omega) (by omega),bs,show(j:Int)-(i:Int)-1=((j-(i+1):Nat):Int)from by omega,zX [] (by omega),bs,zN1 x.zA.length (by omega) j hj i hi,bs,zX [] (by omega),bs,show j-i-1=j-(i+1)from by omega]
 ·rw[zKy h hE hT hk hi hj]
  exact(sZ h hE hT (x.zA.length-(k+1)) (k+1) (by omega) _).2 ⟨_,_,rfl,e2,hr⟩
theorem zFq{k j:Nat}(hk:k<j)(hj:j<x.zA.length):zKA ⟨x,m0,T⟩ (k:Int) (j:Int)=iz (prE x (k+1) ((lvl (exx D x m T) k).cs.getD (j-(k+1)) []))∧V (suf (exx D x m T) (k+1)) ((lvl (exx D x m T) k).cs.getD (j-(k+1)) []):=by
 have e:(lvl (exx D x m T) k).cs.getD (j-(k+1)) []=(((exx D x m T).zB.getD k []).getD (j-(k+1)) []).drop (k+1):=by
  have hC:((exx D x m T).zB.getD k []).length=x.zA.length+D-1-k:=by rw[zIp h hE hT (by omega),exC,if_pos (by omega),xY]
  simp only[lvl];rw[J2,Jn,J5 (by omega),J2 (l:=(exx D x m T).zB.getD k []),J5 (by omega)];rfl
 rw[e];exact zPz h hE hT (Jf k) hk hj
theorem zKz{k j:Nat}(hk:k≤j)(hj:j<x.zA.length):zOl ⟨x,m0,T⟩ (j:Int)=iz (prE x (k+1) (((exx D x m T).zJ.getD j []).drop (k+1)))∧V (suf (exx D x m T) (k+1)) (((exx D x m T).zJ.getD j []).drop (k+1)):=by
 have hn:=hE.hn;have hb:=tG x.zA.length (by omega);have ht:=hE.t;have fE:=h.pl;have t1:=(h.tl j hj).1;obtain⟨e1,e2⟩:=zDj (k:=k+1) t1 (by omega) (by omega);have hl:=vR h (by omega) e2;have hr:=zDv h hE hT hj;refine⟨?_,?_⟩
 ·rw[zIo h hE hT hk hj,qM hl,←e1]
  grind[zOl,zX]
 ·rw[zIo h hE hT hk hj]
  exact(sZ h hE hT (x.zA.length-(k+1)) (k+1) (by omega) _).2 ⟨_,_,rfl,e2,hr⟩
theorem zK0{k:Nat}(hk:k≤x.zA.length)(h0:0<x.zA.length):zM5 ⟨x,m0,T⟩=iz (prE x k (zeros (suf (exx D x m T) k).length)):=by
 have hn:=hE.hn;have h3:=hE.m.d3;have hb:=tG x.zA.length (by omega);have ht:=hE.t;have hr:=zDv h hE hT h0;have eJ:=hr.1;unfold zM5;dsimp only
 have e0:ixO T 0=iz (T.getD 0 []):=by grind[zX]
 rw[iE (by omega),zK,e0,bs,yX (by omega),bs,yX (by omega),bs,zDu h hE hT hk,qM (zR _),eJ,fv]
 grind[zeros,Jd]
theorem zSI{u v:Vec}(hu:Row m.Prime D u)(hv:Row m.Prime D v):f_D m.Prime u 1 v=iz (adv m.Prime D u v):=by
 have _:=h;have _:=hT;have h3:=hE.m.d3;rw[tN hE.m.p hu hv (by omega) (by omega)]
 congr 1
 exact yD (by simp)
theorem prV{k:Nat}(hk:k≤x.zA.length){w:Vec}(hw:V (suf (exx D x m T) k) w):∃y u,w=y++u∧V (suf x k) y∧Row m.Prime D u∧prE x k w=⟨fv k y,u⟩∧y.length=x.zA.length-k:=by obtain⟨y,u,rfl,hy,hu⟩:=(sZ h hE hT (x.zA.length-k) k (by omega) _).1 hw;have er:=vR h hk hy;exact⟨y,u,rfl,hy,hu,qM er,er⟩
variable (hM:Mv D x.zA.length m0 m)
 include hM
theorem zMb{k:Nat}(hk:k<x.zA.length){g:zN→Int→zH→zH→Option zH}(hg:zSG D x m0 m T (k+1) g):zSH D x m0 m T k (b_f g):=by
 intro v hv;have hn:=hE.hn;have hp:=hE.m.p.pos;have ok:=uS h hE hT (k:=k+1) (by omega);have hA:=hE.m.mat k hk;obtain⟨y,u,rfl,hy,hu,fX,er⟩:=prV h hE hT (k:=k+1) (by omega) hv;obtain⟨_,hyr⟩:=zEv h.os (x.zA.length-(k+1)) (k+1) y (by omega) hy;have gD:=zBa h hE hT (k:=k);have gR:=zSA h hE hT hk;have hcg:∀i,i<x.zA.length-(k+1)→(eC1 x T k).getD i []=(lvl (exx D x m T) k).cs.getD i []:=fun i hi=>by rw[zE1 h hE hT hk,J2,J2,K5 (by omega)]
 obtain⟨A,aU⟩:∃A:Nat→Vec,∀i,A i=img (mul (suf (exx D x m T) (k+1))) ((eC1 x T k).take i) (y.take i) (zeros (suf (exx D x m T) (k+1)).length):=⟨_,fun _=>rfl⟩;have hI:∀i,V (suf (exx D x m T) (k+1)) (A i):=fun i=>by rw[aU];exact jZ (yY ok) _ _ (by grind) (wJ ok)
 have hA0:A 0=zeros (suf (exx D x m T) (k+1)).length:=by grind[img]
 have hAn:A (x.zA.length-(k+1))=sgG D x m T k y:=by rw[aU,Jm (by omega),Jm (by omega)];rfl
 rw[fX];unfold b_f;dsimp only
 rw[zK0 h hE hT (k:=k+1) (by omega) (by omega),bs,zI (by omega) (by omega),bs,cs];have:=zQ (body:=zUr g ⟨x,m0,T⟩ k ⟨fv (k+1) y,u⟩) (r:=((prE x (k+1) (sgG D x m T k y)).x,(prE x (k+1) (sgG D x m T k y)).v))
  (fun i=>((prE x (k+1) (A i)).x,(prE x (k+1) (A i)).v,((k+1+i:Nat):Int))) (x.zA.length-(k+1)) (fun i hi=>by
  have hr:=hyr i hi;obtain⟨c1,c2⟩:=zFq h hE hT (k:=k) (j:=k+1+i) (by omega) (by omega);rw[show k+1+i-(k+1)=i from by omega]at c1 c2;unfold zUr;dsimp only
  rw[iE (by grind[zDh]),zK];rw[zC8 (S:=V (suf (exx D x m T) (k+1))) (fun w=>(prE x (k+1) w).x) (fun w=>(prE x (k+1) w).v) (fun w=>mul (suf (exx D x m T) (k+1)) w ((lvl (exx D x m T) k).cs.getD i [])) (at0 y i) hr.1 (by grind[yY]) (fun w q hw hq=>by
   unfold zW6;dsimp only
   rw[fv,zL2 (by omega),bs,iE hq,zK,zI (by omega) (by omega),bs,c1,bs,cs,show(zH.mk (prE x (k+1) w).x (prE x (k+1) w).v)=prE x (k+1) w from rfl,hg w _ hw c2,bs,zI (by omega) (by omega),bs,cs]) (fun w hw=>by
   unfold zW6;dsimp only
   rw[fv,zL2 (by omega),bs,iD (by omega),zL]) (hI i),bs,zI (by omega) (by omega),bs,cs]
  rw[aU (i+1),zCe _ _ _ _ (by omega) (by omega),hcg i hi,←aU];rfl) (by
  unfold zUr;dsimp only
  rw[iD (by grind[zDh]),zL,hAn])
 rw[hA0,Qm]at this;rw[this,bs,hM.mv k hk _ hu,bs];obtain⟨y1,u1,e,fq,ck,dL,mb⟩:=prV h hE hT (k:=k+1) (by omega) (zJ6 h hE hT hk (y:=y));rw[zE2 h hE hT hk hy hu,dL,e,Jq mb,K1 mb,qM mb];dsimp only
 rw[hM.pr,zSI h hE hT ck (wU (by omega)),bs]
theorem zSJ{k:Nat}(hk:k<x.zA.length){g:zN→Int→zH→zH→Option zH}{gi:zN→Int→zH→Option zH}(hg:zSG D x m0 m T (k+1) g)(hi:zSH D x m0 m T k gi):zSG D x m0 m T k (b_c gi g):=by
 have _:=hM;intro a b ha hb;have hn:=hE.hn;have hl:=xU h hE hT;have hp:=(h.os.2 k hk).pos;have ok:=uS h hE hT (k:=k+1) (by omega);have ok0:=uS h hE hT (k:=k) (by omega);obtain⟨al,au,rfl,mL,hau,fg,fp⟩:=prV h hE hT (k:=k) (by omega) ha;obtain⟨bl,bu,rfl,pE,hbu,bf,hbll⟩:=prV h hE hT (k:=k) (by omega) hb;rw[fg,bf];rw[yC (x:=x) hk]at mL pE;rw[yC (x:=exx D x m T) (by omega)]at ok0 ⊢
 obtain⟨a0,a,rfl⟩:∃a0 a',al=a0::a':=by cases al with|nil=>grind|cons p q=>simp
 obtain⟨b0,b,rfl⟩:∃a0 a',bl=a0::a':=by cases bl with|nil=>grind|cons p q=>simp
 obtain⟨⟨a1,a2⟩,mL⟩:=mL;obtain⟨⟨b1,b2⟩,pE⟩:=pE;change a0<at0 x.zA k at a2;change b0<at0 x.zA k at b2;have io:=vR h (by omega) mL;have ig:=vR h (by omega) pE;have hA:=(sZ h hE hT (x.zA.length-(k+1)) (k+1) (by omega) (a++au)).2 ⟨_,_,rfl,mL,hau⟩;have hB:=(sZ h hE hT (x.zA.length-(k+1)) (k+1) (by omega) (b++bu)).2 ⟨_,_,rfl,pE,hbu⟩;have own:∀u,V (suf x (k+1)) u→f_n (fv (k+1) u)=iz (fv (k+1) u):=by grind[wQ,zDh]
 have own':∀(c:Int) u,V (suf x (k+1)) u→f_n (fv k (c::u))=iz (fv k (c::u)):=fun c u hu=>wQ (by have:=vR h (by omega) hu;rw[fv,Ja,zR,K2];omega)
 have eQ:∀u,V (suf (exx D x m T) (k+1)) u→V (suf (exx D x m T) (k+1)) (sig (suf (exx D x m T) (k+1)) (lvl (exx D x m T) k) u):=by grind[zDc]
 have ez:V (suf (exx D x m T) (k+1)) (iter b0.toNat (sig (suf (exx D x m T) (k+1)) (lvl (exx D x m T) k)) (a++au)):=vP eQ _ hA;have ea:(⟨fv (k+1) a,au⟩:zH)=prE x (k+1) (a++au):=(qM io).symm;have eb:(⟨fv (k+1) b,bu⟩:zH)=prE x (k+1) (b++bu):=(qM ig).symm;unfold b_c;dsimp only
 rw[iD (by omega),zL,own' _ _ mL,bs,own' _ _ pE,bs,zDf,bs,zDf,bs,J6,zEe,zEe,zCw,zCw];have e1:zG (zQP gi ⟨x,m0,T⟩ k ⟨fv k (b0::b),bu⟩) (zeros (k+1)++a,au,0)=iz ((prE x (k+1) (iter b0.toNat (sig (suf (exx D x m T) (k+1)) (lvl (exx D x m T) k)) (a++au))).x,(prE x (k+1) (iter b0.toNat (sig (suf (exx D x m T) (k+1)) (lvl (exx D x m T) k)) (a++au))).v):=by
  have:=zC8 (body:=zQP gi ⟨x,m0,T⟩ k ⟨fv k (b0::b),bu⟩) (S:=V (suf (exx D x m T) (k+1))) (fun w=>(prE x (k+1) w).x) (fun w=>(prE x (k+1) w).v) (sig (suf (exx D x m T) (k+1)) (lvl (exx D x m T) k)) b0 b1 eQ (fun w q hw hq=>by
   unfold zQP;dsimp only
   rw[zDf,bs,iE hq,zK,show(zH.mk (prE x (k+1) w).x (prE x (k+1) w).v)=prE x (k+1) w from rfl,hi w hw,bs,zI (by omega) (by omega),bs,cs]) (fun w hw=>by
   unfold zQP;dsimp only
   rw[zDf,bs,iD (by omega),zL]) hA
  grind
 rw[e1,bs,zI (by omega) (by omega),bs,cs];dsimp only
 rw[show zeros (k+1)++b=fv (k+1) b from rfl,eb,show(zH.mk (prE x (k+1) (iter b0.toNat (sig (suf (exx D x m T) (k+1)) (lvl (exx D x m T) k)) (a++au))).x (prE x (k+1) (iter b0.toNat (sig (suf (exx D x m T) (k+1)) (lvl (exx D x m T) k)) (a++au))).v)=prE x (k+1) (iter b0.toNat (sig (suf (exx D x m T) (k+1)) (lvl (exx D x m T) k)) (a++au))from rfl,hg _ _ ez hB,bs,bs,bs,zI (by omega) (by omega),bs,yH hk,bs];have hm:=yY ok ez hB;show _=iz (prE x k (mul _ (a0::(a++au)) (b0::(b++bu))));rw[yQ,zFn h hE hT hk]
 generalize mul (suf (exx D x m T) (k+1)) (iter b0.toNat (sig (suf (exx D x m T) (k+1)) (lvl (exx D x m T) k)) (a++au)) (b++bu)=r at hm ⊢
 have fin:∀(c:Int) w,V (suf (exx D x m T) (k+1)) w→((f_n (prE x (k+1) w).x).bind fun r22=>(ixO r22 (k:Int)).bind fun _=>iz (zH.mk (r22.set k c) (prE x (k+1) w).v))=iz (prE x k (c::w)):=fun c w hw=>by
  obtain⟨w1,w2,rfl,h1,h2,h3,h4⟩:=prV h hE hT (k:=k+1) (by omega) hw;have e3:prE x k (c::(w1++w2))=⟨fv k (c::w1),w2⟩:=by grind[qM]
  rw[h3,e3];dsimp only
  rw[own _ h1,bs,fv,←zCw,zDf,bs,zEe]
 by_cases hge:a0+b0≥at0 x.zA k
 ·obtain⟨p1,p2⟩:=zKz h hE hT (k:=k) (j:=k) (Jf k) hk
  change V (suf (exx D x m T) (k+1)) (lvl (exx D x m T) k).w at p2;rw[iE hge,zK,if_pos hge,bs,zI (by omega) (by omega),bs,bs,p1,bs];have e4:=hg _ _ p2 hm;rw[show(((exx D x m T).zJ.getD k []).drop (k+1))=(lvl (exx D x m T) k).w from rfl,e4,bs]
  grind[yY]
 ·rw[iD hge,zL,if_neg hge]
  grind
theorem zE3:∀(d k:Nat),k+d=x.zA.length→(∀q,2*d+1≤q→zSG D x m0 m T k (zOn q))∧(1≤d→ ∀q,2*d≤q→zSH D x m0 m T k (zOm q))
 |0,k,hk=>by
  refine⟨fun q hq a b ha hb=>?_,fun h=>by omega⟩;have hn:=hE.hn;have hp:=hE.m.p.pos;obtain⟨q,rfl⟩:∃m',q=m'+1:=⟨q-1,by omega⟩;rw[zC7 h hE hT D k (by omega) (by omega)]at ha hb ⊢
  have ax:=(zGz _ _).1 ha;have eG:=(zGz _ _).1 hb;show b_c _ _ ⟨x,m0,T⟩ k _ _=_;unfold b_c;have e:∀w:Vec,prE x k w=⟨zeros k,w⟩:=fun w=>by rw[prE,show x.zA.length-k=0 from by omega,Ko,Hw,fv,J9]
  rw[e,e,e];dsimp only
  rw[iE (by omega),zK,yX (by omega),bs,hM.pr,zSI h hE hT ax eG,bs,zAw (by omega) D _ _ ax eG,show x.zA.length=k from by omega];rfl
 |d+1,k,hk=>by
  obtain⟨h1,h2⟩:=zE3 d (k+1) (by omega);have hI:∀q,2*(d+1)≤q→zSH D x m0 m T k (zOm q):=fun q hq=>by obtain⟨q,rfl⟩:∃m',q=m'+1:=⟨q-1,by omega⟩;exact zMb h hE hT hM (by omega) (h1 q (by omega))
  refine⟨fun q hq=>?_,fun _=>hI⟩;obtain⟨q,rfl⟩:∃m',q=m'+1:=⟨q-1,by omega⟩;exact zSJ h hE hT hM (by omega) (h1 q (by omega)) (hI q (by omega))
theorem zIr{k:Nat}(hk:k≤x.zA.length):zSG D x m0 m T k f_c:=fun a b ha hb=>
 zBm (2*(x.zA.length-k)+1) fun q hq=>(zE3 h hE hT hM (x.zA.length-k) k (by omega)).1 q hq a b ha hb
theorem zBC{k:Nat}(hk:k<x.zA.length):zSH D x m0 m T k f_f:=fun v hv=>
 zBm (2*(x.zA.length-k)) fun q hq=>(zE3 h hE hT hM (x.zA.length-k) k (by omega)).2 (by omega) q hq v hv
end
end Go.Pl

namespace Go.Pl
open Go Go.Ab Go.Wk Go.Pc
structure GR (p:Int) (D:Nat) (Z:Vec→Prop) (L:Mx) (N:Nat) (C:Prop):Prop where
 len:L.length≤N
 row:∀r∈L,Row p D r
 iff:(∀r∈L,Z r)↔C
theorem GR.nil{p:Int}{D N:Nat}{Z:Vec→Prop}:GR p D Z [] N True:=⟨by simp,by simp,by simp⟩
theorem GR.app{p:Int}{D N M:Nat}{Z:Vec→Prop}{L L':Mx}{C C':Prop}(h:GR p D Z L N C)(h':GR p D Z L' M C'):GR p D Z (L++L') (N+M) (C∧C'):=by
 refine⟨by have:=h.len;have:=h'.len;grind,fun r hr=>?_,?_⟩
 ·rcases Jw.1 hr with g|g
  ·exact h.row r g
  ·exact h'.row r g
 ·rw[←h.iff,←h'.iff]
  grind
theorem GR.one{p:Int}{D:Nat}{Z:Vec→Prop}{r:List Int}{C:Prop}(hr:Row p D r)(h:Z r↔C):GR p D Z [r] 1 C:=
 ⟨by simp,by grind,by grind⟩
theorem GR.to{p:Int}{D N M:Nat}{Z:Vec→Prop}{L:Mx}{C C':Prop}(h:GR p D Z L N C)(hN:N≤M)(hc:C↔C'):GR p D Z L M C':=⟨by have:=h.len;omega,h.row,h.iff.trans hc⟩
def c1E(e:SPr)(k j:Nat):Prop:=pw (mul (suf e (k+1))) (zeros (suf e (k+1)).length) ((lvl e k).cs.getD (j-(k+1)) []) (at0 e.zA j).toNat=sig (suf e (k+1)) (lvl e k) ((e.zJ.getD j []).drop (k+1))
def c2E(e:SPr)(k i j:Nat):Prop:=mul (suf e (k+1)) ((lvl e k).cs.getD (j-(k+1)) []) ((lvl e k).cs.getD (i-(k+1)) [])=mul (suf e (k+1)) ((lvl e k).cs.getD (i-(k+1)) []) (sig (suf e (k+1)) (lvl e k) (((e.zB.getD i []).getD (j-(i+1)) []).drop (k+1)))
def c4E(e:SPr)(k j:Nat):Prop:=mul (suf e (k+1)) (lvl e k).w (iter (lvl e k).o.toNat (sig (suf e (k+1)) (lvl e k)) (xD (e.zA.length-(k+1)) (j-(k+1))))=mul (suf e (k+1)) (xD (e.zA.length-(k+1)) (j-(k+1))) (lvl e k).w
def c1Q(Q:Nat→Vec→Vec→Prop)(e:SPr)(k j:Nat):Prop:=Q (k+1) (pw (mul (suf e (k+1))) (zeros (suf e (k+1)).length) ((lvl e k).cs.getD (j-(k+1)) []) (at0 e.zA j).toNat) (sig (suf e (k+1)) (lvl e k) ((e.zJ.getD j []).drop (k+1)))
def c2Q(Q:Nat→Vec→Vec→Prop)(e:SPr)(k i j:Nat):Prop:=Q (k+1) (mul (suf e (k+1)) ((lvl e k).cs.getD (j-(k+1)) []) ((lvl e k).cs.getD (i-(k+1)) [])) (mul (suf e (k+1)) ((lvl e k).cs.getD (i-(k+1)) []) (sig (suf e (k+1)) (lvl e k) (((e.zB.getD i []).getD (j-(i+1)) []).drop (k+1))))
def c4Q(Q:Nat→Vec→Vec→Prop)(e:SPr)(k j:Nat):Prop:=Q (k+1) (mul (suf e (k+1)) (lvl e k).w (iter (lvl e k).o.toNat (sig (suf e (k+1)) (lvl e k)) (xD (e.zA.length-(k+1)) (j-(k+1))))) (mul (suf e (k+1)) (xD (e.zA.length-(k+1)) (j-(k+1))) (lvl e k).w)
structure LCQ (Q:Nat→Vec→Vec→Prop) (x e:SPr) (k:Nat):Prop where
 c1:∀j,k+1≤j→j<x.zA.length→c1Q Q e k j
 c2:∀i,k+1≤i→i<x.zA.length→ ∀j,i+1≤j→j<x.zA.length→c2Q Q e k i j
 c3:Q (k+1) (sig (suf e (k+1)) (lvl e k) (lvl e k).w) (lvl e k).w
 c4:∀j,k+1≤j→j<x.zA.length→c4Q Q e k j
section
variable {D:Nat}{x:SPr}{m0 m:zC}{T:Mx} (h:Pres x) (hE:ExB x.zA.length D x m T) (hT:∀i,i<T.length→Row m.Prime D (T.getD i []))
 include h hE hT
theorem zC9{k:Nat}(hk:k≤x.zA.length){a b:Vec}(ha:V (suf (exx D x m T) k) a)(hb:V (suf (exx D x m T) k) b):(mul (suf (exx D x m T) k) a b).take (x.zA.length-k)=mul (suf x k) (a.take (x.zA.length-k)) (b.take (x.zA.length-k)):=by grind[zKx]
theorem zE4{k:Nat}(hk:k<x.zA.length){v:Vec}(hv:V (suf (exx D x m T) (k+1)) v):(sig (suf (exx D x m T) (k+1)) (lvl (exx D x m T) k) v).take (x.zA.length-(k+1))=sig (suf x (k+1)) (lvl x k) (v.take (x.zA.length-(k+1))):=
 by grind[zLZ,zKx]
theorem zFZ{k:Nat}(hk:k<x.zA.length){v:Vec}(hv:V (suf (exx D x m T) (k+1)) v):V (suf (exx D x m T) (k+1)) (sig (suf (exx D x m T) (k+1)) (lvl (exx D x m T) k) v):=by
 have gB:=uS h hE hT (k:=k) (by omega);rw[yC (x:=exx D x m T) (by grind[xU])]at gB
 grind[zDc]
theorem zK1{k:Nat}(hk:k<x.zA.length):∀(q:Nat){v:Vec},V (suf (exx D x m T) (k+1)) v→(iter q (sig (suf (exx D x m T) (k+1)) (lvl (exx D x m T) k)) v).take (x.zA.length-(k+1))=iter q (sig (suf x (k+1)) (lvl x k)) (v.take (x.zA.length-(k+1)))
 |0,_,_=>rfl
 |q+1,v,hv=>by have:=zK1 hk q (zFZ h hE hT hk hv);rw[zE4 h hE hT hk hv]at this;exact this
theorem zVU{k:Nat}(hk:k≤x.zA.length):(zeros (suf (exx D x m T) k).length).take (x.zA.length-k)=zeros (suf x k).length:=by grind[zDu,zR,yI]
theorem zYe{k:Nat}(hk:k≤x.zA.length){c:Vec}(hc:V (suf (exx D x m T) k) c)(q:Nat):(pw (mul (suf (exx D x m T) k)) (zeros (suf (exx D x m T) k).length) c q).take (x.zA.length-k)=pw (mul (suf x k)) (zeros (suf x k).length) (c.take (x.zA.length-k)) q:=by have ok:=uS h hE hT (k:=k) (by omega);have:=zIm (S:=V (suf (exx D x m T) k)) (n:=mul (suf x k)) (·.take (x.zA.length-k)) (fun a b=>yY ok) (by grind[zC9]) [c] [(q:Int)] (zeros (suf (exx D x m T) k).length) (by grind) (wJ ok);simp only[Jl,U2,img,J6]at this;rw[zVU h hE hT hk]at this;exact this
section
variable {k:Nat} (hk:k<x.zA.length)
 include hk
theorem zJ7{j:Nat}(h1:k+1≤j)(h2:j<x.zA.length):((lvl (exx D x m T) k).cs.getD (j-(k+1)) []).take (x.zA.length-(k+1))=(lvl x k).cs.getD (j-(k+1)) []:=by rw[zMa h hE hT hk h1 h2,Jq (vR h (by omega) (zA5 h hk h1 h2).2.2)]
theorem zIs{j:Nat}(h1:k≤j)(h2:j<x.zA.length):(((exx D x m T).zJ.getD j []).drop (k+1)).take (x.zA.length-(k+1))=(x.zJ.getD j []).drop (k+1):=by
 have t1:=(h.tl j h2).1.1.1
 grind[zIo]
theorem zSK{i j:Nat}(h1:k+1≤i)(h2:i<j)(h3:j<x.zA.length):((((exx D x m T).zB.getD i []).getD (j-(i+1)) []).drop (k+1)).take (x.zA.length-(k+1))=((x.zB.getD i []).getD (j-(i+1)) []).drop (k+1):=by rw[zKy h hE hT (by omega) h2 h3,Jq (vR h (by omega) (zSp h hk h1 h2 h3).2.2)]
theorem zSL{j:Nat}(h1:k+1≤j)(h2:j<x.zA.length):xD ((exx D x m T).zA.length-(k+1)) (j-(k+1))=xD (x.zA.length-(k+1)) (j-(k+1))++zeros D:=by
 rw[xU h hE hT,zAX (by omega),zAX (by omega),Jh,K9]
 grind[zeros,Jd]
end
variable (hM:Mv D x.zA.length m0 m) {Z:Vec→Prop}{Q:Nat→Vec→Vec→Prop} (hZ:∀k,k≤x.zA.length→ ∀a b,V (suf (exx D x m T) k) a→V (suf (exx D x m T) k) b→a.take (x.zA.length-k)=b.take (x.zA.length-k)→(Z (vA m.Prime D (a.drop (x.zA.length-k)) (-1) (b.drop (x.zA.length-k)))↔Q k a b))
 include hM hZ
theorem zK2{k:Nat}(hk:k≤x.zA.length){a b:Vec}(ha:V (suf (exx D x m T) k) a)(hb:V (suf (exx D x m T) k) b)(e:a.take (x.zA.length-k)=b.take (x.zA.length-k)):∃r,zM6 ⟨x,m0,T⟩ (prE x k a) (prE x k b)=iz r∧Row m.Prime D r∧(Z r↔Q k a b):=by
 have h7:=hE.m.p.pos;have h3:=hE.m.d3;obtain⟨y,u,rfl,hy,hu,fX,er⟩:=prV h hE hT hk ha;obtain⟨z,v,rfl,hz,hv,dK,pF⟩:=prV h hE hT hk hb;have pb:=hZ k hk _ _ ha hb e;rw[K1 er,K1 pF]at pb;unfold zM6;rw[fX,dK];dsimp only
 rw[hM.pr,zI (by omega) (by omega),bs,tN hE.m.p hu hv (by omega) (by omega),bs,zEy];exact⟨_,rfl,kF hE.m.p,pb⟩
section
variable {k:Nat} (hk:k<x.zA.length) (hc:LC x k)
 include hk
 include hc
theorem yCM{j:Nat}(h1:k+1≤j)(h2:j<x.zA.length){L0 L:Mx}{N:Nat}{C:Prop}(hL:GR m.Prime D Z L N C)(hN:N≤1000){f:Mx→Option (Mx×Int⊕Mx)}:∃L',((zM5 ⟨x,m0,T⟩).bind fun r2=>
  (zG (zQQ ⟨x,m0,T⟩ (k:Int) (L0,(j:Int))) (r2.x,r2.v,0)).bind fun r8=>
  (zOl ⟨x,m0,T⟩ (j:Int)).bind fun r9=>
  (f_f ⟨x,m0,T⟩ (k:Int) r9).bind fun r10=>
  (zM6 ⟨x,m0,T⟩ (zH.mk r8.1 r8.2) r10).bind fun r11=>
  (yG L [r11]).bind f)=f L'∧GR m.Prime D Z L' (N+1) (C∧c1Q Q (exx D x m T) k j):=by
 have ok:=uS h hE hT (k:=k+1) (by omega);have hn:=hE.hn;have hp:=(h.os.2 j h2).pos;have hz:=wJ ok;obtain⟨c1,c2⟩:=zFq h hE hT (k:=k) (j:=j) (by omega) h2;obtain⟨p1,p2⟩:=zKz h hE hT (k:=k) (j:=j) (by omega) h2;have hA:=zIr h hE hT hM (k:=k+1) (by omega);have hI:=zBC h hE hT hM hk;have ud:zG (zQQ ⟨x,m0,T⟩ (k:Int) (L0,(j:Int))) ((prE x (k+1) (zeros (suf (exx D x m T) (k+1)).length)).x,(prE x (k+1) (zeros (suf (exx D x m T) (k+1)).length)).v,0)=iz ((prE x (k+1) (pw (mul (suf (exx D x m T) (k+1))) (zeros (suf (exx D x m T) (k+1)).length) ((lvl (exx D x m T) k).cs.getD (j-(k+1)) []) (at0 x.zA j).toNat)).x,(prE x (k+1) (pw (mul (suf (exx D x m T) (k+1))) (zeros (suf (exx D x m T) (k+1)).length) ((lvl (exx D x m T) k).cs.getD (j-(k+1)) []) (at0 x.zA j).toNat)).v):=
  zC8 (S:=V (suf (exx D x m T) (k+1))) (fun w=>(prE x (k+1) w).x) (fun w=>(prE x (k+1) w).v) (fun w=>mul (suf (exx D x m T) (k+1)) w ((lvl (exx D x m T) k).cs.getD (j-(k+1)) [])) (at0 x.zA j) (by omega) (by grind[yY]) (fun w q hw hq=>by
   unfold zQQ;dsimp only
   rw[yH h2,bs,iE hq,zK,zI (by omega) (by omega),bs,c1,bs,cs,show(zH.mk (prE x (k+1) w).x (prE x (k+1) w).v)=prE x (k+1) w from rfl,hA w _ hw c2,bs,zI (by omega) (by omega),bs,cs]) (fun w hw=>by
   simp_all[zQQ,yH]) hz
 have dJ:V (suf (exx D x m T) (k+1)) (pw (mul (suf (exx D x m T) (k+1))) (zeros (suf (exx D x m T) (k+1)).length) ((lvl (exx D x m T) k).cs.getD (j-(k+1)) []) (at0 x.zA j).toNat):=vP (by grind[yY]) _ hz;obtain⟨r,r1,r2,r3⟩:=zK2 h hE hT hM hZ (k:=k+1) (by omega) dJ (zFZ h hE hT hk p2) (by rw[zYe h hE hT (by omega) c2,zE4 h hE hT hk p2,zJ7 h hE hT hk h1 h2,zIs h hE hT hk (by omega) h2];exact hc.c1 j h1 h2)
 have bj:=hL.len;refine⟨L++[r],?_,hL.app (GR.one r2 (r3.trans ?_))⟩
 ·rw[zK0 h hE hT (k:=k+1) (by omega) (by omega),bs,ud,bs,p1,bs,hI _ p2,bs]
  dsimp only
  rw[r1,bs,zY (by simp;omega),bs]
 ·unfold c1Q;rw[sG h hE hT h2]
theorem yCN{j:Nat}(h1:k+1≤j)(h2:j<x.zA.length){L0 L:Mx}{N:Nat}{C:Prop}(hL:GR m.Prime D Z L N C)(hN:N≤1000):∃L',zG (zQR ⟨x,m0,T⟩ (k:Int) (L0,(j:Int))) (L,((j+1:Nat):Int))=iz L'∧GR m.Prime D Z L' (N+(x.zA.length-(j+1))) (C∧ ∀j2,j+1≤j2→j2<x.zA.length→c2Q Q (exx D x m T) k j j2):=by
 have ok:=uS h hE hT (k:=k+1) (by omega);have hn:=hE.hn;have hA:=zIr h hE hT hM (k:=k+1) (by omega);have hI:=zBC h hE hT hM hk;refine uL (fun i(s:Mx×Int)=>s.2=((j+1+i:Nat):Int)∧GR m.Prime D Z s.1 (N+i) (C∧ ∀j2,j+1≤j2→j2<j+1+i→c2Q Q (exx D x m T) k j j2)) (x.zA.length-(j+1)) (fun i s hi ⟨hs,hg⟩=>?_) (fun s ⟨hs,hg⟩=>?_) ⟨rfl,hL.to (by omega) (by grind)⟩
 ·left
  obtain⟨L1,s2⟩:=s;dsimp only at hs hg;subst hs;have g2:j+1+i<x.zA.length:=by omega
  obtain⟨a1,a2⟩:=zFq h hE hT (k:=k) (j:=j) (by omega) h2;obtain⟨b1,b2⟩:=zFq h hE hT (k:=k) (j:=j+1+i) (by omega) g2;obtain⟨d1,d2⟩:=zPz h hE hT (k:=k) (i:=j) (j:=j+1+i) (by omega) (by omega) g2;have hs:=zFZ h hE hT hk d2;obtain⟨r,r1,r2,r3⟩:=zK2 h hE hT hM hZ (k:=k+1) (by omega) (yY ok b2 a2) (yY ok a2 hs) (by rw[zC9 h hE hT (by omega) b2 a2,zC9 h hE hT (by omega) a2 hs,zE4 h hE hT hk d2,zJ7 h hE hT hk h1 h2,zJ7 h hE hT hk (by omega) g2,zSK h hE hT hk h1 (by omega) g2];exact hc.c2 j h1 h2 (j+1+i) (by omega) g2)
  have bj:=hg.len;refine⟨(L1++[r],((j+1+i+1:Nat):Int)),?_,rfl,(hg.app (GR.one r2 r3)).to (by omega) ?_⟩
  ·unfold zQR
   dsimp only
   rw[iE (by omega),zK,a1,bs,b1,bs,d1,bs,hI _ d2,bs,zI (by omega) (by omega),bs,cs,hA _ _ b2 a2,bs,bs,hA _ _ a2 hs,bs,r1,bs,zY (by simp;omega),bs,zI (by omega) (by omega),bs,cs]
  ·constructor
   ·rintro⟨⟨g1,g3⟩,g4⟩
    refine⟨g1,fun j2 e1 e2=>?_⟩;rcases Jg j2 (j+1+i)with e|e
    ·grind
    ·obtain rfl:j2=j+1+i:=by omega
     exact g4
   ·rintro⟨g1,g3⟩
    exact⟨by grind,g3 (j+1+i) (by omega) (by omega)⟩
 ·obtain⟨L1,s2⟩:=s
  dsimp only at hs hg;subst hs;refine⟨L1,?_,hg.to (Jf _) ?_⟩
  ·unfold zQR
   grind
  grind
theorem yCO:∃L',zG (zUs ⟨x,m0,T⟩ (k:Int)) ([],((k+1:Nat):Int))=iz L'∧GR m.Prime D Z L' 100 (∀j,k+1≤j→j<x.zA.length→c1Q Q (exx D x m T) k j∧ ∀j2,j+1≤j2→j2<x.zA.length→c2Q Q (exx D x m T) k j j2):=by
 have hn:=hE.hn;refine uL (fun i(s:Mx×Int)=>s.2=((k+1+i:Nat):Int)∧GR m.Prime D Z s.1 (7*i) (∀j,k+1≤j→j<k+1+i→c1Q Q (exx D x m T) k j∧ ∀j2,j+1≤j2→j2<x.zA.length→c2Q Q (exx D x m T) k j j2)) (x.zA.length-(k+1)) (fun i s hi ⟨hs,hg⟩=>?_) (fun s ⟨hs,hg⟩=>?_) ⟨rfl,(GR.nil (N:=0)).to (by omega) (by grind)⟩
 ·left
  obtain⟨L1,s2⟩:=s;dsimp only at hs hg;subst hs;have g2:k+1+i<x.zA.length:=by omega
  obtain⟨L2,e2,hg2⟩:=yCM h hE hT hM hZ hk hc (j:=k+1+i) (by omega) g2 (L0:=L1) hg (by omega) (f:=fun v12=>(rng (((k+1+i:Nat):Int)+1)).bind fun v13=>
   (zG (zQR ⟨x,m0,T⟩ (k:Int) (L1,((k+1+i:Nat):Int))) (v12,v13)).bind fun r25=>
   (rng (((k+1+i:Nat):Int)+1)).bind fun v26=>iz (.inl (r25,v26)))
  obtain⟨L3,e3,hg3⟩:=yCN h hE hT hM hZ hk hc (j:=k+1+i) (by omega) g2 (L0:=L1) hg2 (by omega);refine⟨(L3,((k+1+i+1:Nat):Int)),?_,rfl,hg3.to (by omega) ?_⟩
  ·unfold zUs
   dsimp only
   rw[iE (by omega),zK,e2,zI (by omega) (by omega),bs,cs,e3,bs,bs]
  grind
 ·obtain⟨L1,s2⟩:=s
  dsimp only at hs hg;subst hs;refine⟨L1,?_,hg.to (by omega) ?_⟩
  ·unfold zUs
   grind
  grind
theorem zSM{j:Nat}(h1:k+1≤j)(h2:j<x.zA.length):∃r,zM5 ⟨x,m0,T⟩=iz r∧ixO r.x (j:Int)=iz 0∧r.x.set j 1=(prE x (k+1) (xD (x.zA.length-(k+1)) (j-(k+1))++zeros D)).x∧r.v=(prE x (k+1) (xD (x.zA.length-(k+1)) (j-(k+1))++zeros D)).v:=by
 have _:=hM;have _:=hZ;have _:=hc;have hn:=hE.hn;have eI:(xD (x.zA.length-(k+1)) (j-(k+1))).length=x.zA.length-(k+1):=by rw[zAA,yE]
 refine⟨_,zK0 h hE hT (k:=k+1) (by omega) (by omega),?_,?_,?_⟩
 ·rw[zDu h hE hT (by omega),qM (zR _)]
  dsimp only
  simp only[fv,zeros,Jd];rw[vY,K7,if_pos (by omega)]
 ·rw[zDu h hE hT (by omega),qM (zR _),qM eI]
  dsimp only
  have e1:fv (k+1) (zeros (x.zA.length-(k+1)))=zeros j++0::zeros (x.zA.length-(k+1)-(j-(k+1)+1)):=by
   simp only[fv,zeros];rw[←Jv,Jd,Jd]
   grind
  rw[e1,zEe,fv,zAX (by omega),←Jh]
  grind[zeros,Jd]
 grind[zDu,qM,zR]
theorem yCP{L:Mx}{N:Nat}{C:Prop}(hL:GR m.Prime D Z L N C)(hN:N≤1000):∃L',zG (zQS ⟨x,m0,T⟩ (k:Int) (prE x (k+1) (((exx D x m T).zJ.getD k []).drop (k+1)))) (L,((k+1:Nat):Int))=iz L'∧GR m.Prime D Z L' (N+(x.zA.length-(k+1))) (C∧ ∀j,k+1≤j→j<x.zA.length→c4Q Q (exx D x m T) k j):=by
 have hn:=hE.hn;have hpk:=(h.os.2 k hk).pos;have h7:=hE.m.p.pos;have ok:=uS h hE hT (k:=k+1) (by omega);have hA:=zIr h hE hT hM (k:=k+1) (by omega);have hI:=zBC h hE hT hM hk;obtain⟨p1,p2⟩:=zKz (m0:=m0) h hE hT (k:=k) (j:=k) (Jf k) hk;change V (suf (exx D x m T) (k+1)) (lvl (exx D x m T) k).w at p2;change∃L',zG (zQS ⟨x,m0,T⟩ (k:Int) (prE x (k+1) (lvl (exx D x m T) k).w)) (L,((k+1:Nat):Int))=iz L'∧_;have dg:(lvl (exx D x m T) k).w.take (x.zA.length-(k+1))=(lvl x k).w:=zIs h hE hT hk (Jf k) hk;have ho:(lvl (exx D x m T) k).o=at0 x.zA k:=zFn h hE hT hk;refine uL (fun i(s:Mx×Int)=>s.2=((k+1+i:Nat):Int)∧GR m.Prime D Z s.1 (N+i) (C∧ ∀j,k+1≤j→j<k+1+i→c4Q Q (exx D x m T) k j)) (x.zA.length-(k+1)) (fun i s hi ⟨hs,hg⟩=>?_) (fun s ⟨hs,hg⟩=>?_) ⟨rfl,hL.to (by omega) (by grind)⟩
 ·left
  obtain⟨L1,s2⟩:=s;dsimp only at hs hg;subst hs;have g2:k+1+i<x.zA.length:=by omega
  obtain⟨r33,z1,z2,z3,z4⟩:=zSM h hE hT hM hZ hk hc (j:=k+1+i) (by omega) g2;have hue:=zSL h hE hT hk (j:=k+1+i) (by omega) g2;have hux:V (suf x (k+1)) (xD (x.zA.length-(k+1)) (k+1+i-(k+1))):=by
   have:=zDb (h.okAt (k:=k+1) (by omega)) (j:=k+1+i-(k+1)) (by grind[yI])
   grind[yI]
  have eI:=vR h (by omega) hux;have mW:V (suf (exx D x m T) (k+1)) (xD (x.zA.length-(k+1)) (k+1+i-(k+1))++zeros D):=(sZ h hE hT (x.zA.length-(k+1)) (k+1) (by omega) _).2 ⟨_,_,rfl,hux,xF (by omega)⟩;have ez:V (suf (exx D x m T) (k+1)) (iter (at0 x.zA k).toNat (sig (suf (exx D x m T) (k+1)) (lvl (exx D x m T) k)) (xD (x.zA.length-(k+1)) (k+1+i-(k+1))++zeros D)):=vP (fun w hw=>zFZ h hE hT hk hw) _ mW;have ud:zG (zUt ⟨x,m0,T⟩ (k:Int)) ((prE x (k+1) (xD (x.zA.length-(k+1)) (k+1+i-(k+1))++zeros D)).x,(prE x (k+1) (xD (x.zA.length-(k+1)) (k+1+i-(k+1))++zeros D)).v,0)=iz ((prE x (k+1) (iter (at0 x.zA k).toNat (sig (suf (exx D x m T) (k+1)) (lvl (exx D x m T) k)) (xD (x.zA.length-(k+1)) (k+1+i-(k+1))++zeros D))).x,(prE x (k+1) (iter (at0 x.zA k).toNat (sig (suf (exx D x m T) (k+1)) (lvl (exx D x m T) k)) (xD (x.zA.length-(k+1)) (k+1+i-(k+1))++zeros D))).v):=
   zC8 (S:=V (suf (exx D x m T) (k+1))) (fun w=>(prE x (k+1) w).x) (fun w=>(prE x (k+1) w).v) (sig (suf (exx D x m T) (k+1)) (lvl (exx D x m T) k)) (at0 x.zA k) (by omega) (fun w hw=>zFZ h hE hT hk hw) (fun w q hw hq=>by
    unfold zUt;dsimp only
    rw[yH hk,bs,iE hq,zK,show(zH.mk (prE x (k+1) w).x (prE x (k+1) w).v)=prE x (k+1) w from rfl,hI w hw,bs,zI (by omega) (by omega),bs,cs]) (fun w hw=>by
    simp_all[zUt,yH]) mW
  obtain⟨r,r1,r2,r3⟩:=zK2 h hE hT hM hZ (k:=k+1) (by omega) (yY ok p2 ez) (yY ok mW p2) (by rw[zC9 h hE hT (by omega) p2 ez,zC9 h hE hT (by omega) mW p2,zK1 h hE hT hk _ mW,dg,Jq eI];exact hc.c4 (k+1+i) (by omega) g2)
  have bj:=hg.len;refine⟨(L1++[r],((k+1+i+1:Nat):Int)),?_,rfl,(hg.app (GR.one r2 r3)).to (by omega) ?_⟩
  ·unfold zQS
   dsimp only
   rw[iE (by omega),zK,z1,bs,z2,bs,J6,z3,z4,ud,bs,zI (by omega) (by omega),bs,cs];dsimp only
   have e1:=hA _ _ p2 ez;have e2:=hA _ _ mW p2;rw[show∀w,(zH.mk (prE x (k+1) w).x (prE x (k+1) w).v)=prE x (k+1) w from fun _=>rfl,show∀w,(zH.mk (prE x (k+1) w).x (prE x (k+1) w).v)=prE x (k+1) w from fun _=>rfl,e1,bs,bs,e2,bs,r1,bs,zY (by simp;omega),bs,zI (by omega) (by omega),bs,cs]
  ·have e4:c4Q Q (exx D x m T) k (k+1+i)↔Q (k+1) (mul (suf (exx D x m T) (k+1)) (lvl (exx D x m T) k).w (iter (at0 x.zA k).toNat (sig (suf (exx D x m T) (k+1)) (lvl (exx D x m T) k)) (xD (x.zA.length-(k+1)) (k+1+i-(k+1))++zeros D))) (mul (suf (exx D x m T) (k+1)) (xD (x.zA.length-(k+1)) (k+1+i-(k+1))++zeros D) (lvl (exx D x m T) k).w):=by
    grind[c4Q]
   rw[←e4];constructor
   ·grind
   grind
 ·obtain⟨L1,s2⟩:=s
  dsimp only at hs hg;subst hs;refine⟨L1,?_,hg.to (Jf _) ?_⟩
  ·unfold zQS
   grind
  grind
theorem zZ8:∃L,f_l ⟨x,m0,T⟩ (k:Int)=iz L∧GR m.Prime D Z L 120 (LCQ Q x (exx D x m T) k):=by
 have hn:=hE.hn;have hI:=zBC h hE hT hM hk;obtain⟨p1,p2⟩:=zKz h hE hT (k:=k) (j:=k) (Jf k) hk;obtain⟨L1,e1,g1⟩:=yCO h hE hT hM hZ hk hc;have hs:=zFZ h hE hT hk p2;obtain⟨r,r1,r2,r3⟩:=zK2 h hE hT hM hZ (k:=k+1) (by omega) hs p2 (by rw[zE4 h hE hT hk p2,zIs h hE hT hk (Jf k) hk];exact hc.c3)
 obtain⟨L2,e2,g2⟩:=yCP h hE hT hM hZ hk hc (g1.app (GR.one r2 r3)) (by omega);have bj:=g1.len;refine⟨L2,?_,g2.to (by omega) ?_⟩
 ·unfold f_l
  rw[zI (by omega) (by omega),bs,cs,e1,bs,p1,bs,hI _ p2,bs,r1,bs,zY (by simp;omega),bs,bs,e2,bs]
 ·constructor
  ·rintro⟨⟨a1,a2⟩,a3⟩
   exact⟨by grind,by grind,a2,a3⟩
  ·intro a
   exact⟨⟨fun j b1 b2=>⟨a.c1 j b1 b2,fun j2 b3 b4=>a.c2 j b1 b2 j2 b3 b4⟩,a.c3⟩,a.c4⟩
end
theorem zZ9(hx:wH (suf x 0)):∃L,zW7 ⟨x,m0,T⟩=iz L∧GR m.Prime D Z L 1000 (∀k,k<x.zA.length→LCQ Q x (exx D x m T) k):=by
 have hn:=hE.hn;have h3:=hE.m.d3;have pt:∀k,k<x.zA.length→LC x k:=fun k hk=>((zA6 h.w hk).1 (zCg hx k)).2
 obtain⟨L,e,g⟩:=uL (body:=zM7 ⟨x,m0,T⟩) (Q:=fun L=>GR m.Prime D Z L 1000 (∀k,k<x.zA.length→LCQ Q x (exx D x m T) k)) (fun i(s:Mx×Int)=>s.2=(i:Int)∧GR m.Prime D Z s.1 (120*i) (∀k,k<i→LCQ Q x (exx D x m T) k)) x.zA.length (fun i s hi ⟨hs,hg⟩=>by
  left;obtain⟨L1,s2⟩:=s;dsimp only at hs hg;subst hs;obtain⟨L2,e2,g2⟩:=zZ8 h hE hT hM hZ hi (pt i hi);have l1:=hg.len;have l2:=g2.len;refine⟨(L1++L2,((i+1:Nat):Int)),?_,rfl,(hg.app g2).to (by omega) ?_⟩
  ·unfold zM7
   dsimp only
   rw[yM hi,zK,e2,bs,zY (by omega),bs,zI (by omega) (by omega),bs,cs]
  grind) (fun s ⟨hs,hg⟩=>by
  obtain⟨L1,s2⟩:=s;dsimp only at hs hg;subst hs;refine⟨L1,?_,hg.to (by omega) Iff.rfl⟩
  simp_all[zM7]) (s:=([],0)) ⟨rfl,(GR.nil (N:=0)).to (by omega) (by simp)⟩
 grind[zW7]
end
section
variable {D:Nat}{x:SPr}{m0 m:zC}{T:Mx} (h:Pres x) (hE:ExB x.zA.length D x m T) (hT:∀i,i<T.length→Row m.Prime D (T.getD i [])) (hM:Mv D x.zA.length m0 m)
 include h hE hT hM
theorem zK3(hx:wH (suf x 0))(hr:zFS x m D):IsB (zQT x m0 T) (wH (suf (exx D x m T) 0)):=by
 have hn:=hE.hn;have h3:=hE.m.d3;have hp:=hE.m.p.pos;obtain⟨L,e,g⟩:=zZ9 h hE hT hM (Z:=fun r=>r=zeros D) (Q:=fun _ a b=>a=b) (fun k hk a b ha hb e=>by
  obtain⟨y,u,rfl,hy,hu,_,er⟩:=prV h hE hT hk ha;obtain⟨z,v,rfl,hz,hv,_,pF⟩:=prV h hE hT hk hb;rw[Jq er,Jq pF]at e;subst e;rw[K1 er,K1 er,List.append_cancel_left_eq,←zDH (p:=m.Prime) hu hv];constructor
  ·grind[uB]
  ·intro g
   rw[wT (zDp (p:=m.Prime) (r:=u) (s:=v) (k:=-1)),show zeros D=mkv D fun _=>0 from uO D]
   grind[yD]) hx
 have bj:=g.len;unfold zQT;rw[e,bs];refine(sC (body:=zM8 L) L.length (fun i=> ∀j,j<(L.getD i []).length→at0 (L.getD i []) j=0) rfl (fun i hi _=>?_) ?_).iff ?_
 ·have ef:=g.row (L.getD i []) (by grind)
  unfold zM8;rw[yM hi,zK,zX [] hi,bs];rcases kY (v:=L.getD i []) (by rw[ef.1];omega)with⟨z1,z2⟩|⟨z1,z2⟩
  ·left
   rw[z1,bs,J7,zL,zI (by omega) (by omega),bs,cs]
   grind
  grind
 ·simp_all[zM8]
 ·rw[zVT h hE hT hr,show(∀k,k<x.zA.length→LCn x (exx D x m T) k)↔(∀k,k<x.zA.length→LCQ (fun _ a b=>a=b) x (exx D x m T) k)from⟨fun a k hk=>⟨(a k hk).c1,(a k hk).c2,(a k hk).c3,(a k hk).c4⟩,fun a k hk=>⟨(a k hk).c1,(a k hk).c2,(a k hk).c3,(a k hk).c4⟩⟩,←g.iff]
  constructor
  ·intro a r hr
   obtain⟨i,hi,rfl⟩:=Jt.1 hr;have a:=a i hi;rw[J2,J5 hi]at a;have ef:=g.row _ hr;rw[wT ef.1,show zeros D=mkv D fun _=>0 from uO D]
   grind
  grind[K3,uB]
end
end Go.Pl

namespace Go.Pl
open Go Go.Ab Go.Wk Go.Pc
theorem zDW{x:SPr}(h:Pres x):∃s:Nat,zQI x=iz (s:Int)∧(s=0↔wH (suf x 0)):=by
 have h6:=h.os.1;unfold zQI;obtain⟨r,r1,r2⟩:=uL (body:=zG3 x) (Q:=fun r=> ∃s:Nat,r=(s:Int)∧wH (suf x s)∧(s=0∨ ¬wH (suf x (s-1)))) (fun i s=>i≤x.zA.length∧s=((x.zA.length-i:Nat):Int)∧wH (suf x (x.zA.length-i))) x.zA.length (fun i s hi ⟨_,hs,gR⟩=>by
   subst hs;have hk:x.zA.length-i-1<x.zA.length:=by omega
   have e9:x.zA.length-(i+1)=x.zA.length-i-1:=by omega
   rw[e9];have e8:i+1≤x.zA.length:=by omega
   rw[show x.zA.length-i=x.zA.length-i-1+1 from by omega]at gR ⊢
   have cV:=zHM h hk gR;have cb:=zA6 h.w hk
   generalize x.zA.length-i-1=k at*
   unfold zG3;rw[iE (by omega),zK,zI (by omega) (by omega),bs,show(((k+1:Nat):Int)-1)=(k:Int)from by omega];rcases cV with⟨g1,g2⟩|⟨r,g1,g2,g3⟩
   ·simp_all
   grind) (fun s ⟨_,hs,gR⟩=>by
   rw[Kl]at hs gR;subst hs;unfold zG3
   grind) (s:=(x.zA.length:Int)) ⟨by omega,by rfl,by rw[Gw,vQ (by omega)];simp only[wH]⟩
 obtain⟨s,rfl,gR,hs⟩:=r2;rw[r1,bs];refine⟨s,rfl,by grind,fun g=>?_⟩
 grind[zCg]
section
variable {x:SPr}{m:zC}{T:Mx}{D:Nat} (hx:qJ x) (hm:MOk x.zA.length m D) (hT:T.length≤1048576)
 include hx hm hT
def sU(x:SPr)(m:zC)(D:Nat)(T:Mx):Prop:=T.length=base x.zA.length x.zA.length∧yBT m D T
theorem zAB:IsB (zQO x m T) (sU x m D T):=by
 have h6:=hx.n6;unfold zQO;rw[zN5 rfl h6,bs]
 by_cases g:T.length=base x.zA.length x.zA.length
 ·rw[show((T.length:Int)==((base x.zA.length x.zA.length:Nat):Int))=iB from by simp[g],zK]
  exact(IsB.b (zKu hm (by omega) hT)).iff ⟨fun q=>⟨g,q⟩,fun q=>q.2⟩
 ·rw[show((T.length:Int)==((base x.zA.length x.zA.length:Nat):Int))=iC from by simp;omega,zL]
  exact .inr ⟨rfl,fun q=>g q.1⟩
theorem zG0:IsB (zUu x m T) (sU x m D T):=by
 have h6:=hx.n6;have h3:=hm.d3;unfold zUu;rw[zN6 rfl h6,bs]
 by_cases g:T.length=base x.zA.length x.zA.length
 ·rw[show((T.length:Int)==((base x.zA.length x.zA.length:Nat):Int))=iB from by simp[g],zK]
  exact(IsB.b (zJv hm.p hm.d (by omega) hT)).iff ⟨fun q=>⟨g,q⟩,fun q=>q.2⟩
 ·rw[show((T.length:Int)==((base x.zA.length x.zA.length:Nat):Int))=iC from by simp;omega,zL]
  exact .inr ⟨rfl,fun q=>g q.1⟩
 omit hT in
theorem zSN(ht:sU x m D T):zKt x.zA.length D x m T:=by
  have h3:=hm.d3;exact zKt.of hx hm ht.1 (zN4 fun i hi=>by have:=(ht.2 i hi).1;omega)
 omit hT in
theorem zP0(ht:sU x m D T):IsB (zUv x m T) (wH (suf (exx D x m T) 0)):=by
  have hE:=zSN hx hm ht;unfold zUv;rw[zSz hE,bs];obtain⟨s,s1,s2⟩:=zDW ((zFm hx.toPres (hE.b hm) ht.2).p (by rw[xU hx.toPres (hE.b hm) ht.2];have:=hm.d3;have:=hE.hn;omega))
  grind[IsB.of_bool]
end
end Go.Pl

namespace Go.Pl
open Go Go.Ab Go.Wk Go.Pc
def Coc(x:SPr)(m:zC)(D:Nat)(T:Mx):Prop:=sU x m D T∧wH (suf (exx D x m T) 0)
section
variable {x:SPr}{m:zC}{A B:Mx}{L:List Mx}
theorem zQ3(hx:zYb x)(hm:zZo m)(hA:A.length≤1048576)(hB:B.length≤1048576)(hl:L.length≤1000)(hL:∀t,t∈L↔t=A∨t=B):∃c:Int,zOo x m A B=iz c∧f_P x m L=iz c∧(c=0→zBn x∧ ∃D,MOk x.zA.length m D∧zFS x m D∧Coc x m D A∧Coc x m D B):=by
 have pc:x.zA.length≤1048576:=hx.1;have hml:=S3.len hm;unfold zOo f_P;rcases(zBI (m:=m) pc).both (zBJ (m:=m) pc hml)with⟨s1,i1,hM⟩|⟨s1,i1,hM⟩
 ·obtain⟨hc,D,hD,hr⟩:=hM
  have gu:∀i,i<L.length→L.getD i []=A∨L.getD i []=B:=by grind[K3]
  have gm:∀i,i<L.length→(L.getD i []).length≤1048576:=by grind
  have fp:∀(P:Mx→Prop),(∀i,0≤i→i<L.length→P (L.getD i []))↔P A∧P B:=fun P=>by
   constructor
   ·intro g
    have key:∀t,t∈L→P t:=fun t ht=>by
     obtain⟨i,hi,rfl⟩:=Jt.1 ht
     grind
    grind
   grind
  have eK:∀i:Nat,i<L.length→((i:Nat):Int)<(L.length:Int):=fun i hi=>by omega
  simp only[s1,i1,bs,J7,zL];have c1:=chk (body:=zU3 x m L) L.length 0 (Kb _) (fun i=>sU x m D (L.getD i [])) (fun _=>(1:Int)) (fun i _ hi _=>by
   unfold zU3;rw[yM hi,zK,zX [] hi,bs];rcases zG0 hc.2.2 hD (gm i hi)with⟨z1,z2⟩|⟨z1,z2⟩
   ·left
    rw[z1,bs,J7,zL,zI (by omega) (by omega),bs,cs]
    grind
   grind) (by
   unfold zU3;simp)
  rw[show((0:Nat):Int)=0 from rfl]at c1;have hAB:(∀i,0≤i→i<L.length→sU x m D (L.getD i []))↔_:=fp (sU x m D);rcases c1 with⟨c1,c2⟩|⟨i,_,hi,c1,c2⟩
  ·obtain⟨tA,tB⟩:=hAB.1 c2
   rw[c1,bs];simp only
   rcases zAB hc.2.2 hD hA with⟨z1,_⟩|⟨_,z2⟩
   rcases zAB hc.2.2 hD hB with⟨y1,_⟩|⟨_,y2⟩
   ·simp only[z1,y1,bs,J7,zL]
    have c3:=chk (body:=zU4 x m L) L.length 0 (Kb _) (fun i=>wH (suf (exx D x m (L.getD i [])) 0)) (fun _=>(5:Int)) (fun i _ hi _=>by
     unfold zU4;rw[yM hi,zK,zX [] hi,bs];rcases zP0 hc.2.2 hD (c2 i (Kb _) hi)with⟨z1,z2⟩|⟨z1,z2⟩
     ·left
      rw[z1,bs,J7,zL,zI (by omega) (by omega),bs,cs]
      grind
     grind) (by
     unfold zU4;simp)
    rw[show((0:Nat):Int)=0 from rfl]at c3;have hCC:(∀i,0≤i→i<L.length→wH (suf (exx D x m (L.getD i [])) 0))↔_:=fp (fun t=>wH (suf (exx D x m t) 0));have sA:=zK3 hc.1 ((zSN hc.2.2 hD tA).b hD) tA.2 (Mv.self hD) hc.2.1 hr;have sB:=zK3 hc.1 ((zSN hc.2.2 hD tB).b hD) tB.2 (Mv.self hD) hc.2.1 hr;rcases c3 with⟨c3,c4⟩|⟨i,_,hi,c3,c4⟩
    ·obtain⟨kA,kB⟩:=hCC.1 c4
     rcases sA with⟨z3,_⟩|⟨_,z3⟩
     rcases sB with⟨y3,_⟩|⟨_,y3⟩
     ·rw[z3,bs,J7,zL,y3,bs,J7,zL,c3,bs]
      exact⟨0,rfl,rfl,fun _=>⟨hc,D,hD,hr,⟨tA,kA⟩,tB,kB⟩⟩
     all_goals grind
    ·rw[c3,bs]
     refine⟨5,?_,rfl,by simp⟩;rcases sA with⟨z3,z4⟩|⟨z3,z4⟩
     ·rcases sB with⟨y3,y4⟩|⟨y3,y4⟩
      all_goals grind
     grind
   all_goals grind
  ·rw[c1,bs]
   refine⟨1,?_,rfl,by simp⟩;rcases zAB hc.2.2 hD hA with⟨z1,z2⟩|⟨z1,z2⟩
   ·rcases zAB hc.2.2 hD hB with⟨y1,y2⟩|⟨y1,y2⟩
    all_goals grind
   grind
 simp_all
end
end Go.Pl

namespace Go.Pl
open Go Go.Ab Go.Wk Go.Pc
theorem zBt{x:SPr}(h:Pres x)(_:x.zA.length≤6):(yZ x).length=base x.zA.length x.zA.length:=by grind[zQw,base]
abbrev uT(x:SPr)(m:zC)(D:Nat):Mx:=zJ3 (x.zA.length*D) (fun k=>dfc m D (uv x.zA.length D k)) (yZ x)
section
variable {x:SPr}{m:zC}{D:Nat} (hx:qJ x) (hD:MOk x.zA.length m D)
 include hx hD
theorem zNE:∃R pv,zU2 x m=iz R∧zQW x m=iz (uT x m D)∧f_g m.Prime (uT x m D)=iz R∧Red m.Prime (base x.zA.length x.zA.length*D) R pv∧R.length≤63∧base x.zA.length x.zA.length*D≤63:=by have h6:=hx.n6;have h3:=hD.d3;have hb:=tG x.zA.length (by omega);have hl:=zBt hx.toPres h6;have fw:x.zA.length*D≤6*3:=K6 h6 h3;have bc:base x.zA.length x.zA.length*D≤21*3:=K6 hb.2.1 h3;have fE:(uT x m D).length=x.zA.length*D:=xY;obtain⟨R,pv,r1,r2,r3,_⟩:=zA9 hD.p (n:=(yZ x).length*D) (by grind) (rows:=uT x m D) (by omega) (by rw[fE];exact zFW (zN9 hx.toPres hD) (yZ x));rw[hl]at r3;have hR:=r3.len_le;refine⟨R,pv,?_,zCI hx.toPres hD,r2,r3,by omega,bc⟩;unfold zU2;rw[zDt hx.toPres hD,bs,r1,bs]
theorem zE5{T:Mx}(ht:sU x m D T):Row m.Prime (base x.zA.length x.zA.length*D) T.flatten∧zQV T=iz T.flatten∧f_z T=iz T.flatten:=by
 have h6:=hx.n6;have h3:=hD.d3;have hb:=tG x.zA.length (by omega);have bc:base x.zA.length x.zA.length*D≤21*3:=K6 hb.2.1 h3;have h:=zLP (p:=m.Prime) (D:=D) (xs:=T) fun r hr=>by
  obtain⟨i,hi,rfl⟩:=Jt.1 hr;have:=ht.2 i hi
  grind
 rw[ht.1]at h;have hl:=ht.1;exact⟨h,zJz (by omega) (by rw[h.1];omega),zA7 (by omega) (by rw[h.1];omega)⟩
end
end Go.Pl

namespace Go.Pl
open Go Go.Ab Go.Wk Go.Pc
section
variable {p:Int} (hp:Prime p) {c N:Nat} (gw:c+N≤100000) {A:Mx}
 include hp gw
theorem zSO(hr:∀i,i<N→Row p c (A.getD i []))(hl:A.length=N){b:List Int}(hb:Row p c b){r:List Int}{ok:Bool}(q:f_W p A (c:Int) b=iz (r,ok)):ok=iB↔Sp p c A b:=by
 have h7:=hp.pos;obtain⟨W,pv,t,h,h2,h3⟩:=Nul.get hp gw hr hl;have hy:=zFX hp gw h hb t;have hlr:=zVO (by omega) h.row h.red h.sp h.le h.lo h.hi;have hls:=zZ0 (by omega) h.row h.red h.sp h.le h.lo h.hi h.len;have bj:(lft c t W).length=t:=xY;have e:∀i,i≤t→(sy p c N W pv b i).take c=cl p c (lft c t W) pv b i:=by
  intro i
  induction i with
  |zero=>
   intro _;show(b++J1 N 0).take c=b;exact Jq hb.1
  |succ i ih=>
   intro hi;have ih:=ih (by omega);have gW:=h.lo i (by omega);show(vA p (c+N) (sy p c N W pv b i) (p-at0 (sy p c N W pv b i) (pv i)) (W.getD i [])).take c=vA p c (cl p c (lft c t W) pv b i) (p-at0 (cl p c (lft c t W) pv b i) (pv i)) ((lft c t W).getD i []);have h1:∀j,j<c→at0 (cl p c (lft c t W) pv b i) j=at0 (sy p c N W pv b i) j:=by grind
   have gm:((vA p (c+N) (sy p c N W pv b i) (p-at0 (sy p c N W pv b i) (pv i)) (W.getD i [])).take c).length=c:=by grind[zDp]
   rw[wT gm];refine yD fun j hj=>?_
   rw[zDr hj,vA,zS (by omega),h1 j hj,h1 _ gW];have h4:at0 ((lft c t W).getD i []) j=at0 (W.getD i []) j:=zFk (by omega) hj;rw[h4]
 have hz:=zPt hp (by omega) hlr hb;rw[bj]at hz;have e1:(∀i,i<((sy p c N W pv b t).take c).length→at0 ((sy p c N W pv b t).take c) i=0)↔Sp p c A b:=by
  rw[←hls.iff,←hz,e t (Jf _)]
  grind
 rw[zC5 hp gw h h2 hb]at q;have fc:((sy p c N W pv b t).take c).length=c:=by rw[Kn,hy.1];omega
 rcases kY (v:=(sy p c N W pv b t).take c) (by omega)with⟨z1,z2⟩|⟨z1,z2⟩
 all_goals grind
theorem zQ4(hr:∀i,i<N→Row p c (A.getD i []))(hl:A.length=N){b:List Int}(hb:Row p c b){r:List Int}(q:f_W p A (c:Int) b=iz (r,iB)):r.length=N:=by
 have h7:=hp.pos;obtain⟨W,pv,t,h,h2,h3⟩:=Nul.get hp gw hr hl;have hy:=zFX hp gw h hb t;have hK:=h.nred hp gw;have hx:=zKw hp gw h (b:=b);have fc:((sy p c N W pv b t).take c).length=c:=by rw[Kn,hy.1];omega
 rw[zC5 hp gw h h2 hb]at q;rcases kY (v:=(sy p c N W pv b t).take c) (by omega)with⟨z1,z2⟩|⟨z1,z2⟩
 ·rw[z1,bs,J7,zL]at q
  have:=Km.inj q;rw[←(Uq.inj this).1];exact(zBL hp (by omega) hK hx _).1
 grind
end
def ngv(p:Int)(c:Nat)(v:List Int):List Int:=vA p c (zeros c) (-1) v
theorem zSP{p:Int}{c:Nat}{A:Mx}{v:List Int}:Sp p c A (ngv p c v)↔Sp p c A v:=by
 have hz:Sp p c A (zeros c):=zBA fun j _=>by rw[uB];simp
 constructor
 ·intro g
  refine qV (k:=-1) hz g fun j hj=>?_
  rw[ngv,vA,zS hj,uB,Kw,Kw,Jk,Jr,←Jk];simp
 ·intro g
  refine qV (k:=-1) hz g fun j hj=>?_
  rw[ngv,vA,zS hj,Jr]
section
variable {x:SPr}{m:zC}{D:Nat} (hx:qJ x) (hD:MOk x.zA.length m D)
 include hx hD
theorem zCl{i:Nat}(hi:i<x.zA.length*D):Row m.Prime (base x.zA.length x.zA.length*D) ((uT x m D).getD i []):=by have hl:=zBt hx.toPres hx.n6;rw[←hl];exact zFW (zN9 hx.toPres hD) (yZ x) i hi
theorem zSQ:∃R pv,zU2 x m=iz R∧Red m.Prime (base x.zA.length x.zA.length*D) R pv∧(∀v,Sp m.Prime (base x.zA.length x.zA.length*D) R v↔Sp m.Prime (base x.zA.length x.zA.length*D) (uT x m D) v)∧R.length≤63:=by have h6:=hx.n6;have h3:=hD.d3;have hb:=tG x.zA.length (by omega);have hl:=zBt hx.toPres h6;have fw:x.zA.length*D≤6*3:=K6 h6 h3;have bc:base x.zA.length x.zA.length*D≤21*3:=K6 hb.2.1 h3;have fE:(uT x m D).length=x.zA.length*D:=xY;obtain⟨R,pv,r1,r2,r3,r4⟩:=zA9 hD.p (n:=(yZ x).length*D) (by grind) (rows:=uT x m D) (by omega) (by rw[fE];exact zFW (zN9 hx.toPres hD) (yZ x));rw[hl]at r3 r4;have hR:=r3.len_le;refine⟨R,pv,?_,r3,fun v=>r4.iff,by omega⟩;unfold zU2;rw[zDt hx.toPres hD,bs,r1,bs]
theorem zP1:base x.zA.length x.zA.length*D≤63∧x.zA.length*D≤18:=by have h6:=hx.n6;have hb:=tG x.zA.length (by omega);have bc:base x.zA.length x.zA.length*D≤21*3:=K6 hb.2.1 hD.d3;have fw:x.zA.length*D≤6*3:=K6 h6 hD.d3;omega
theorem zDw{v:List Int}(hv:Row m.Prime (base x.zA.length x.zA.length*D) v):∃u ok,f_W m.Prime (uT x m D) ((base x.zA.length x.zA.length*D:Nat):Int) (ngv m.Prime (base x.zA.length x.zA.length*D) v)=iz (u,ok)∧
  (ok=iB↔Sp m.Prime (base x.zA.length x.zA.length*D) (uT x m D) v)∧zU5 x m v=iz (if ok then sT x.zA.length D u else[],ok)∧(ok=iB→zMD u m.Dim=iz (sT x.zA.length D u)):=by
 have h7:=hD.p.pos;have h1:=hD.d1;have h3:=hD.d3;obtain⟨hc,hn⟩:=zP1 hx hD;have hw:Row m.Prime (base x.zA.length x.zA.length*D) (ngv m.Prime (base x.zA.length x.zA.length*D) v):=kF hD.p;have cX:(uT x m D).length=x.zA.length*D:=xY;obtain⟨u,ok,s1,s2,s3⟩:=zIj hD.p (c:=base x.zA.length x.zA.length*D) (N:=x.zA.length*D) (by omega) (A:=uT x m D) (by grind[zCl]) cX hw;have gB:=zSO hD.p (c:=base x.zA.length x.zA.length*D) (N:=x.zA.length*D) (by omega) (A:=uT x m D) (by grind[zCl]) cX hw s1;rw[zSP]at gB;have eI:ok=iB→u.length=x.zA.length*D:=fun g=>by subst g;exact zQ4 hD.p (by omega) (by grind[zCl]) cX hw s1
 refine⟨u,ok,s1,gB,?_,fun g=>by rw[hD.d,zIf h1 (by omega) (eI g) (by omega)]⟩;unfold zU5 zZZ
 by_cases g:x.zA.length=0
 ·have pz:uT x m D=[]:=Jy (by grind)
  have aS:base x.zA.length x.zA.length*D=0:=by rw[g];show 0*D=0;omega
  have hk:ok=iB:=by grind[zBA]
  have hu:u=[]:=by grind
  rw[show((x.zA.length:Int)==0)=iB from by simp[g],zK,hk,if_pos rfl,g,hu];rfl
 ·have hz:Row m.Prime (base x.zA.length x.zA.length*D) (J1 v.length (0:Int)):=by rw[hv.1];exact xF (by omega)
  have cD:0<x.zA.length*D:=Nat.mul_pos (by omega) (by omega);have h0:ixO (uT x m D) 0=iz ((uT x m D).getD 0 []):=by grind[zX]
  have fT:=hv.1;rw[show((x.zA.length:Int)==0)=iC from by simp[g],zL,yX (by omega),bs,zBe hD.p hz hv (by omega) (by omega),bs,zCI hx.toPres hD,bs,h0,bs,bs,(zCl hx hD (i:=0) cD).1,fT,show vA m.Prime (base x.zA.length x.zA.length*D) (J1 (base x.zA.length x.zA.length*D) 0) (-1) v=ngv m.Prime (base x.zA.length x.zA.length*D) v from rfl,s2,bs];cases ok with
  |false=>rfl
  |true=>
   rw[J7,zL,hD.d,zE0 h1 (eI rfl) (by omega),bs];rfl
end
theorem zNF{x:SPr}{m:zC}{D:Nat}(hx:qJ x)(hD:MOk x.zA.length m D){T:Mx}(kT:sU x m D T):∃u ok,zWH x m T=iz (u,ok)∧zU5 x m T.flatten=iz (u,ok)∧S2 u:=by
 have h7:=hD.p.pos;have h6:=hx.os.1;have h3:=hD.d3;have th:S2 ([]:Mx):=by simp[S2,c2,sm]
 obtain⟨t1,t2,t3⟩:=zE5 hx hD kT;have eK:=zP1 hx hD;obtain⟨u,ok,s1,s2,s3,s4⟩:=zDw hx hD t1;have dX:(mkv (base x.zA.length x.zA.length*D) fun j=>(at0 T.flatten j*(m.Prime-1))%m.Prime)=ngv m.Prime (base x.zA.length x.zA.length*D) T.flatten:=by
  refine yD fun j hj=>?_
  rw[uB]
  generalize at0 T.flatten j=a
  have e:a*(m.Prime-1)=(0+ -1*a)+m.Prime*a:=by grind
  simp_all
 unfold zWH;rw[t2,bs,zDt hx.toPres hD,bs,zI (by omega) (by omega),bs,zEz hD.p (by omega) t1 (by omega) (by omega),bs,dX,t1.1,s1,bs,s3];cases ok with
 |false=>grind
 |true=>
  rw[J7,zL,s4 rfl,bs];exact⟨_,_,rfl,rfl,zQy h6 h3⟩
end Go.Pl

namespace Go.Pl
open Go Go.Ab Go.Wk Go.Pc
end Go.Pl

namespace Go.Pl
open Go Go.Ab Go.Wk Go.Pc
end Go.Pl

namespace Go.Pl
open Go Go.Ab Go.Wk Go.Pc
abbrev zMc:=Nat×List Nat×List Nat
section
variable (x:SPr)
abbrev xZ(a:Nat):Nat:=(at0 x.zA a).toNat
abbrev lcj(i j:Nat):List Int:=(x.zB.getD i []).getD (j-(i+1)) []
def swp:List Nat→Option zMc
 |a::b::s=>if b<a then iz (base x.zA.length b+(a-(b+1)),s,b::(nw 0 (lcj x b a)++s))else iA
 |_=>iA
def pws:List Nat→Option zMc
 |a::w=>if(a::w).take (xZ x a)=J1 (xZ x a) a then iz (a,(a::w).drop (xZ x a),nw 0 (x.zJ.getD a [])++(a::w).drop (xZ x a))else iA
 | []=>iA
def hdS(w:List Nat):Option zMc:=match swp x w with
 |some r=>iz r
 |none=>pws x w
def stS:List Nat→Option zMc
 | []=>iA
 |a::w=>match hdS x (a::w)with
  |some r=>iz r
  |none=>(stS w).map fun r=>(r.1,r.2.1,a::r.2.2)
end
section
variable {x:SPr}
theorem zVV{w s:List Nat}{r:zMc}(h:swp x w=iz r):swp x (w++s)=iz (r.1,r.2.1++s,r.2.2++s):=by
 match w,h with
 | [],h=>cases h
 | [_],h=>cases h
 |a::b::w,h=>
  simp only[swp]at h
  by_cases g:b<a
  ·rw[if_pos g]at h
   cases h;simp only[K9,swp,if_pos g,Jh]
  grind
theorem zIt{w:List Nat}{o a:Nat}(h:w.take o=J1 o a):o≤w.length:=by
 have:=congrArg Ja2 h
 grind
theorem zVW{w s:List Nat}{r:zMc}(h:pws x w=iz r):pws x (w++s)=iz (r.1,r.2.1++s,r.2.2++s):=by
 match w,h with
 | [],h=>cases h
 |a::w,h=>
  simp only[pws]at h
  by_cases g:(a::w).take (xZ x a)=J1 (xZ x a) a
  ·rw[if_pos g]at h
   cases h;have hl:=zIt g;have e1:(a::(w++s)).take (xZ x a)=(a::w).take (xZ x a):=by grind
   have e2:(a::(w++s)).drop (xZ x a)=(a::w).drop (xZ x a)++s:=by grind
   simp only[K9,pws]
   grind
  grind
theorem zFr{a b:Nat}{s s2:List Nat}(h:swp x (a::b::s)=iA):swp x (a::b::s2)=iA:=by
 simp only[swp]at h ⊢
 grind
theorem zP2{w:List Nat}(h:hdS x w=iA):swp x w=iA∧pws x w=iA:=by
 unfold hdS at h
 grind
theorem zSR{w:List Nat}(h1:swp x w=iA)(h2:pws x w=iA):hdS x w=iA:=by grind[hdS]
theorem zZA{w s:List Nat}(hw:∀a∈w,2≤xZ x a){r:zMc}(h:hdS x w=iz r):hdS x (w++s)=iz (r.1,r.2.1++s,r.2.2++s):=by
 unfold hdS at h ⊢
 cases e:swp x w with
 |some q=>
  grind[zVV]
 |none=>
  rw[e]at h;have e2:swp x (w++s)=iA:=by
   match w,h with
   | [],h=>cases h
   | [a],h=>
    have h2:=hw a (by simp);simp only[pws]at h
    by_cases g:[a].take (xZ x a)=J1 (xZ x a) a
    ·have h4:=zIt g;grind
    grind
   |a::b::w,h=>exact zFr e
  grind[zVW]
theorem zIu{k a:Nat}(hk:k<xZ x a):∀j,j≤k→ ∀{w:List Nat},(∀b,w.head? =iz b→a<b)→stS x (J1 j a++w)=(stS x w).map fun r=>(r.1,r.2.1,J1 j a++r.2.2)
 |0,_,w,_=>by simp
 |j+1,hj,w,hw=>by
  have ih:=zIu hk j (by omega) hw;rw[Jv,K9];have h1:swp x (a::(J1 j a++w))=iA:=by
   cases j with
   |succ j=>simp only[Jv,K9,swp,if_neg (Jas a)]
   |zero=>
    simp only[Lu,Ju];cases w with
    |nil=>rfl
    |cons b w=>
     have:=hw b rfl;simp only[swp,if_neg (show¬b<a by omega)]
  have h2:pws x (a::(J1 j a++w))=iA:=by
   simp only[pws];refine if_neg fun g=>?_
   have hl:=zIt g;have:=congrArg (fun l=>l[j+1]?) g;rw[G6 (by omega),←K9,←Jv,Jb (by simp),K8,Kl,U6 (by omega)]at this
   grind[List.head?_eq_getElem?]
  simp only[stS];rw[zSR h1 h2,ih];cases stS x w with
  |none=>rfl
  |some r=>rfl
theorem zZB{k a:Nat}(hk:k<xZ x a):stS x (J1 k a)=iA:=by
 have:=zIu hk k (Jf _) (w:=[]) (by simp)
 grind[stS]
theorem zNG:∀{u s:List Nat},(∀a∈u,2≤xZ x a)→ ∀{r:zMc},stS x u=iz r→stS x (u++s)=iz (r.1,r.2.1++s,r.2.2++s)
 | [],_,_,_,h=>by cases h
 |a::w,s,hu,r,h=>by
  simp only[stS]at h;rw[K9];simp only[stS];cases e:hdS x (a::w)with
  |some q=>
   grind[zZA]
  |none=>
   rw[e]at h;cases e2:stS x w with
   |none=>grind
   |some q=>
    rw[e2]at h;cases h;obtain⟨n1,n2⟩:=zP2 e;have m1:swp x (a::(w++s))=iA:=by
     cases w with
     |nil=>cases e2
     |cons b w=>exact zFr n1
    have m2:pws x (a::(w++s))=iA:=by
     simp only[pws]at n2 ⊢
     refine if_neg fun g=>?_
     by_cases hl:xZ x a≤(a::w).length
     ·grind
     ·have:a::w=J1 (a::w).length a:=by
       have g':=congrArg (Qo (a::w).length) g
       grind
      grind[zZB]
    rw[zSR m1 m2,zNG (s:=s) (by grind) e2];rfl
theorem zMd{u s:List Nat}(hu:∀a∈u,2≤xZ x a)(h:stS x (u++s)=iA):stS x u=iA:=by
 cases e:stS x u with
 |none=>rfl
 |some r=>grind[zNG]
theorem zYf:∀{u:List Nat}{l i:Nat}{z:List Nat},(∀a∈u,i<a)→i<l→stS x (u++[l])=iA→stS x (u++l::i::z)=iz (base x.zA.length i+(l-(i+1)),z,u++i::(nw 0 (lcj x i l)++z))
 | [],l,i,z,_,hl,_=>by simp only[Ju,stS,hdS,swp,if_pos hl]
 |a::u,l,i,z,hu,hl,hn=>by
  rw[K9]at hn ⊢
  simp only[stS]at hn ⊢
  cases e:hdS x (a::(u++[l]))with
  |some q=>grind
  |none=>
   rw[e]at hn;have tj:stS x (u++[l])=iA:=by simp_all
   obtain⟨n1,n2⟩:=zP2 e;have m1:swp x (a::(u++l::i::z))=iA:=by
    cases u with
    |nil=>exact zFr n1
    |cons b u=>exact zFr n1
   have m2:pws x (a::(u++l::i::z))=iA:=by
    simp only[pws]at n2 ⊢
    refine if_neg fun g=>?_
    have ea:a::(u++l::i::z)=(a::(u++[l]))++i::z:=by simp
    by_cases ho:xZ x a≤(a::(u++[l])).length
    ·grind
    ·have g':=congrArg (fun w=>w[(a::(u++[l])).length]?) g
     rw[G6 (by omega),ea,Jb (Jf _),Kl,U6 (by omega)]at g';have:i=a:=by grind
     simp_all
   rw[zSR m1 m2,zYf (by grind) hl tj];rfl
theorem yBU{a:Nat}(ha:2≤xZ x a)(w:List Nat):stS x (J1 (xZ x a) a++w)=iz (a,w,nw 0 (x.zJ.getD a [])++w):=by
 obtain⟨k,hk⟩:∃k,xZ x a=k+2:=⟨xZ x a-2,by omega⟩;have e:J1 (xZ x a) a++w=a::a::(J1 k a++w):=by grind
 have h1:swp x (J1 (xZ x a) a++w)=iA:=by rw[e];simp only[swp,if_neg (Jas a)]
 have h2:pws x (J1 (xZ x a) a++w)=iz (a,w,nw 0 (x.zJ.getD a [])++w):=by
  have et:(J1 (xZ x a) a++w).take (xZ x a)=J1 (xZ x a) a:=by simp
  have ed:(J1 (xZ x a) a++w).drop (xZ x a)=w:=by simp
  rw[e]at et ed ⊢
  simp only[pws]
  grind
 have h3:hdS x (J1 (xZ x a) a++w)=iz (a,w,nw 0 (x.zJ.getD a [])++w):=by grind[hdS]
 grind[stS]
end
end Go.Pl

namespace Go.Pl
open Go Go.Ab Go.Wk Go.Pc
theorem tH{p:Int}{D:Nat}{u v w:List Int}:adv p D (adv p D u v) w=adv p D u (adv p D v w):=by
 refine yD fun j hj=>?_
 grind[zS,Ja7]
theorem zBu{p:Int}{D:Nat}{u v:List Int}{A:Mx}:xL p D (adv p D u v) A=adv p D (xL p D u A) (xL p D v A):=by
 refine yD fun j hj=>?_
 rw[xL,xL,zS hj,zS hj,←Jx,←zFa];refine zAP fun l hl=>?_
 rw[zS hl,←Int.add_mul,Jk,Jr,←Jk]
theorem zMe{α:Type}(m:α→α→α)(z:α):∀(cs:List α)(j n:Nat)(acc:α),j<cs.length→j<n→img m cs (xD n j) acc=m acc (cs.getD j z)
 | [],_,_,_,h,_=>by simp at h
 |c::cs,0,n+1,acc,_,_=>by grind[zDC,img,iter,sQ]
 |c::cs,j+1,n+1,acc,h,h2=>by rw[zFK];show img m cs (xD n j) (iter (0:Int).toNat (fun v=>m v c) acc)=_;rw[show iter (0:Int).toNat (fun v=>m v c) acc=acc from rfl,zMe m z cs j n acc (by grind) (by omega),List.getD_cons_succ]
 |_::_,0,0,_,_,h=>by omega
 |_::_,_+1,0,_,_,h=>by omega
theorem zGa(n d:Nat):zeros (n+d)=zeros n++zeros d:=by grind[zeros,Jd]
theorem zSS{n d j:Nat}(hj:j<n):xD (n+d) j=xD n j++zeros d:=by grind[xD,zGa,zR]
def fo(e:SPr)(k:Nat)(u:Vec)(w:List Nat):Vec:=w.foldl (fun u a=>mul (suf e k) u (xD (e.zA.length-k) (a-k))) u
theorem zDx{e:SPr}{k:Nat}{u:Vec}{v w:List Nat}:fo e k u (v++w)=fo e k (fo e k u v) w:=by simp[fo,G3]
theorem sH{e:SPr}{k:Nat}{u:Vec}{a:Nat}{w:List Nat}:fo e k u (a::w)=fo e k (mul (suf e k) u (xD (e.zA.length-k) (a-k))) w:=rfl
theorem zZC{e:SPr}{k a:Nat}(ha:k<a)(hn:a<e.zA.length){b:Int}{y:Vec}(hb:b<at0 e.zA k):mul (suf e k) (b::y) (xD (e.zA.length-k) (a-k))=b::mul (suf e (k+1)) y (xD (e.zA.length-(k+1)) (a-(k+1))):=by obtain⟨t,ht⟩:∃t,a-k=t+1:=⟨a-(k+1),by omega⟩;obtain⟨s,hs⟩:∃s,e.zA.length-k=s+1:=⟨e.zA.length-(k+1),by omega⟩;rw[yC (x:=e) (by omega),ht,hs,zFK,yQ,if_neg (by show¬(b+0≥at0 e.zA k);omega),show a-(k+1)=t from by omega,show e.zA.length-(k+1)=s from by omega,Lw];rfl
theorem zZD{e:SPr}{k:Nat}(hn:k<e.zA.length){b:Int}{y:Vec}:mul (suf e k) (b::y) (xD (e.zA.length-k) (k-k))=if b+1≥at0 e.zA k then(b+1-at0 e.zA k)::mul (suf e (k+1)) (lvl e k).w (mul (suf e (k+1)) (sig (suf e (k+1)) (lvl e k) y) (zeros (e.zA.length-(k+1))))else(b+1)::mul (suf e (k+1)) (sig (suf e (k+1)) (lvl e k) y) (zeros (e.zA.length-(k+1))):=by obtain⟨s,hs⟩:∃s,e.zA.length-k=s+1:=⟨e.zA.length-(k+1),by omega⟩;rw[yC (x:=e) hn,hs,Kl,zDC,yQ,show e.zA.length-(k+1)=s from by omega];rfl
section
variable {D:Nat}{x:SPr}{m:zC}{T:Mx} (h:Pres x) (hE:ExB x.zA.length D x m T) (hT:∀i,i<T.length→Row m.Prime D (T.getD i []))
 include h hE hT
theorem zZE{k:Nat}(hk:k≤x.zA.length){e:Vec}(he:V (suf (exx D x m T) k) e):mul (suf (exx D x m T) k) e (zeros ((exx D x m T).zA.length-k))=e:=by have hp:=hE.m.p.pos;obtain⟨y,u,rfl,hy,hu⟩:=(sZ h hE hT (x.zA.length-k) k (by omega) _).1 he;have:=zFo h hE hT (x.zA.length-k) k (by omega) y u (zeros D) hy hu (xF (by omega));rw[zBs hu]at this;rw[xU h hE hT,show x.zA.length+D-k=(x.zA.length-k)+D from by omega,zGa];exact this
def adK(p:Int)(D N:Nat)(e d:Vec):Vec:=e.take N++adv p D (e.drop N) d
theorem zK4{k:Nat}(hk:k≤x.zA.length){e d:Vec}(he:V (suf (exx D x m T) k) e)(hd:Row m.Prime D d):adK m.Prime D (x.zA.length-k) e d=mul (suf (exx D x m T) k) e (zeros (x.zA.length-k)++d):=by
 obtain⟨y,u,rfl,hy,hu⟩:=(sZ h hE hT (x.zA.length-k) k (by omega) _).1 he
 grind[vR,zFo,adK]
theorem zZF{k:Nat}(hk:k≤x.zA.length){e d:Vec}(he:V (suf (exx D x m T) k) e):V (suf (exx D x m T) k) (adK m.Prime D (x.zA.length-k) e d):=by have hp:=hE.m.p.pos;obtain⟨y,u,rfl,hy,hu⟩:=(sZ h hE hT (x.zA.length-k) k (by omega) _).1 he;have er:=vR h (by omega) hy;rw[adK,Jq er,K1 er];exact(sZ h hE hT (x.zA.length-k) k (by omega) _).2 ⟨y,_,rfl,hy,tR (by omega)⟩
theorem zYg{k:Nat}(hk:k≤x.zA.length){e d d':Vec}(he:V (suf (exx D x m T) k) e):adK m.Prime D (x.zA.length-k) (adK m.Prime D (x.zA.length-k) e d) d'=adK m.Prime D (x.zA.length-k) e (adv m.Prime D d d'):=by obtain⟨y,u,rfl,hy,hu⟩:=(sZ h hE hT (x.zA.length-k) k (by omega) _).1 he;have er:=vR h (by omega) hy;simp only[adK,Jq er,K1 er,tH]
theorem zBD{k:Nat}(hk:k<x.zA.length){b:Int}{e d:Vec}:adK m.Prime D (x.zA.length-k) (b::e) d=b::adK m.Prime D (x.zA.length-(k+1)) e d:=by have _:=h;have _:=hE;have _:=hT;rw[show x.zA.length-k=x.zA.length-(k+1)+1 from by omega];rfl
theorem zD{k:Nat}(hk:k≤x.zA.length){d:Vec}(hd:Row m.Prime D d):V (suf (exx D x m T) k) (zeros (x.zA.length-k)++d):=
 (sZ h hE hT (x.zA.length-k) k (by omega) _).2 ⟨_,d,rfl,zv h hE hT hk,hd⟩
theorem zYh{k a:Nat}(hk:k≤a)(ha:a<x.zA.length):V (suf x k) (xD (x.zA.length-k) (a-k)):=by
 have _:=hE;have _:=hT;have:=zDb (h.okAt (k:=k) (by omega)) (j:=a-k) (by grind[yI])
 grind[yI]
theorem zVX{k a:Nat}(hk:k≤a)(ha:a<x.zA.length):xD ((exx D x m T).zA.length-k) (a-k)=xD (x.zA.length-k) (a-k)++zeros D:=by rw[xU h hE hT,show x.zA.length+D-k=x.zA.length-k+D from by omega,zSS (by omega)]
theorem zE6{k a:Nat}(hk:k≤a)(ha:a<x.zA.length):V (suf (exx D x m T) k) (xD ((exx D x m T).zA.length-k) (a-k)):=by have hp:=hE.m.p.pos;rw[zVX h hE hT hk ha];exact(sZ h hE hT (x.zA.length-k) k (by omega) _).2 ⟨_,_,rfl,zYh h hE hT hk ha,xF (by omega)⟩
theorem zVY{k a:Nat}(hk:k≤a)(ha:a<x.zA.length):aM m D k (xD (x.zA.length-k) (a-k))=m.zE.getD a []:=by have _:=h;have _:=hT;have hA:=hE.m.mat a ha;have hl:=hE.m.len;unfold aM;rw[zMe (PM m.Prime D) [] _ _ _ _ (by grind) (by omega),J2,Lh,show k+(a-k)=a from by omega,←J2,zB9 hA]
variable {k:Nat} (hk:k<x.zA.length) (hc:wH (suf (exx D x m T) (k+1)))
 include hk hc
theorem zYi{a:Nat}(h1:k+1≤a)(ha:a<x.zA.length){e d:Vec}(he:V (suf (exx D x m T) (k+1)) e)(hd:Row m.Prime D d):
  mul (suf (exx D x m T) (k+1)) (adK m.Prime D (x.zA.length-(k+1)) e d) (xD ((exx D x m T).zA.length-(k+1)) (a-(k+1)))=adK m.Prime D (x.zA.length-(k+1)) (mul (suf (exx D x m T) (k+1)) e (xD ((exx D x m T).zA.length-(k+1)) (a-(k+1)))) (xL m.Prime D d (m.zE.getD a [])):=by
 have hp:=hE.m.p.pos;have gB:=uS h hE hT (k:=k+1) (by omega);have G:=(zDd _ gB hc).toMon;have hg:=zE6 h hE hT h1 ha;have hgv:=zYh h hE hT h1 ha;have hz:=zD h hE hT (k:=k+1) (by omega) hd;have fC:=zD h hE hT (k:=k+1) (by omega) (wU (p:=m.Prime) (D:=D) (r:=d) (B:=m.zE.getD a []) (by omega));rw[zK4 h hE hT (by omega) he hd,G.assoc he hz hg,zVX h hE hT h1 ha,zPy h hE hT _ (k+1) (by omega) _ _ _ hd hgv (xF (by omega)),zBs (wU (by omega)),zVY h hE hT h1 ha,←zVX h hE hT h1 ha,zK4 h hE hT (by omega) (G.cl he hg) (wU (by omega)),G.assoc he hg fC,zVX h hE hT h1 ha,zFo h hE hT _ (k+1) (by omega) _ _ _ hgv (xF (by omega)) (wU (by omega)),wV (wU (by omega))]
 omit hc in
theorem zIv{e d:Vec}(he:V (suf (exx D x m T) (k+1)) e)(_hd:Row m.Prime D d):
    sig (suf (exx D x m T) (k+1)) (lvl (exx D x m T) k) (adK m.Prime D (x.zA.length-(k+1)) e d)=adK m.Prime D (x.zA.length-(k+1)) (sig (suf (exx D x m T) (k+1)) (lvl (exx D x m T) k) e) (xL m.Prime D d (m.zE.getD k [])):=by
  have hp:=hE.m.p.pos;obtain⟨y,u,rfl,hy,hu⟩:=(sZ h hE hT (x.zA.length-(k+1)) (k+1) (by omega) _).1 he;have er:=vR h (by omega) hy;obtain⟨y1,u1,e,fq,ck⟩:=(sZ h hE hT (x.zA.length-(k+1)) (k+1) (by omega) _).1 (zJ6 h hE hT hk (y:=y));have eu:=vR h (by omega) fq;have e0:adK m.Prime D (x.zA.length-(k+1)) (y++u) d=y++adv m.Prime D u d:=by grind[adK]
  rw[e0,zE2 h hE hT hk hy (tR (by omega)),zE2 h hE hT hk hy hu,e,Jq eu,K1 eu,adK,Jq eu,K1 eu,zBu,tH]
theorem zMf{z d:Vec}(hz:V (suf (exx D x m T) (k+1)) z)(hd:Row m.Prime D d){w:Vec}(hw:V (suf (exx D x m T) (k+1)) w):
  mul (suf (exx D x m T) (k+1)) w (adK m.Prime D (x.zA.length-(k+1)) z d)=adK m.Prime D (x.zA.length-(k+1)) (mul (suf (exx D x m T) (k+1)) w z) d:=by
 have gB:=uS h hE hT (k:=k+1) (by omega);have G:=(zDd _ gB hc).toMon;rw[zK4 h hE hT (by omega) hz hd,zK4 h hE hT (by omega) (G.cl hw hz) hd,G.assoc hw hz (by grind[zD])]
 omit hc in
theorem zVZ:V (suf (exx D x m T) (k+1)) (lvl (exx D x m T) k).w:=by
  have gB:=uS h hE hT (k:=k) (by omega);rw[yC (x:=exx D x m T) (by grind[xU])]at gB;exact gB.2.1
 omit hc in
theorem zCA{e:Vec}(he:V (suf (exx D x m T) (k+1)) e):V (suf (exx D x m T) (k+1)) (sig (suf (exx D x m T) (k+1)) (lvl (exx D x m T) k) e):=by
  have gB:=uS h hE hT (k:=k) (by omega);rw[yC (x:=exx D x m T) (by grind[xU])]at gB
  grind[zDc]
theorem zG1{b:Int}{e:Vec}(he:V (suf (exx D x m T) (k+1)) e):mul (suf (exx D x m T) k) (b::e) (xD ((exx D x m T).zA.length-k) (k-k))=if b+1≥at0 x.zA k then(b+1-at0 x.zA k)::mul (suf (exx D x m T) (k+1)) (lvl (exx D x m T) k).w (sig (suf (exx D x m T) (k+1)) (lvl (exx D x m T) k) e)else(b+1)::sig (suf (exx D x m T) (k+1)) (lvl (exx D x m T) k) e:=by have _:=hc;rw[zZD (by grind[xU]),zZE h hE hT (by omega) (zCA h hE hT hk he),sG h hE hT hk]
theorem zMg{a:Nat}(h1:k<a)(ha:a<x.zA.length){b:Int}(hb:b<at0 x.zA k){e:Vec}:mul (suf (exx D x m T) k) (b::e) (xD ((exx D x m T).zA.length-k) (a-k))=b::mul (suf (exx D x m T) (k+1)) e (xD ((exx D x m T).zA.length-(k+1)) (a-(k+1))):=by have _:=hc;grind[zZC,xU,sG]
theorem yCQ{a:Nat}(h1:k≤a)(ha:a<x.zA.length){b:Int}(hb:b<at0 x.zA k){e d:Vec}(he:V (suf (exx D x m T) (k+1)) e)(hd:Row m.Prime D d):
  mul (suf (exx D x m T) k) (b::adK m.Prime D (x.zA.length-(k+1)) e d) (xD ((exx D x m T).zA.length-k) (a-k))=adK m.Prime D (x.zA.length-k) (mul (suf (exx D x m T) k) (b::e) (xD ((exx D x m T).zA.length-k) (a-k))) (xL m.Prime D d (m.zE.getD a [])):=by
 have hp:=hE.m.p.pos;rcases Jg k a with g|g
 ·rw[zMg h hE hT hk hc g ha hb,zMg h hE hT hk hc g ha hb,zYi h hE hT hk hc g ha he hd,zBD h hE hT hk]
 ·obtain rfl:a=k:=by omega
  rw[zG1 h hE hT hk hc (by grind[zZF]),zG1 h hE hT hk hc he,zIv h hE hT hk he hd];split
  ·rw[zMf h hE hT hk hc (zCA h hE hT hk he) (wU (by omega)) (zVZ h hE hT hk),zBD h hE hT hk]
  grind[zBD]
theorem yBV{a:Nat}(h1:k≤a)(ha:a<x.zA.length){e:Vec}(he:V (suf (exx D x m T) k) e):V (suf (exx D x m T) k) (mul (suf (exx D x m T) k) e (xD ((exx D x m T).zA.length-k) (a-k))):=by have _:=hc;grind[yY,uS,zE6]
theorem yCR:∀{w:List Nat},(∀a∈w,k≤a∧a<x.zA.length)→ ∀{e:Vec},V (suf (exx D x m T) k) e→V (suf (exx D x m T) k) (fo (exx D x m T) k e w)
 | [],_,_,he=>he
 |a::w,hw,e,he=>by rw[sH];exact yCR (by grind) (by grind[yBV])
theorem zP3:∀{w:List Nat},(∀a∈w,k≤a∧a<x.zA.length)→ ∀{e d:Vec},V (suf (exx D x m T) k) e→Row m.Prime D d→fo (exx D x m T) k (adK m.Prime D (x.zA.length-k) e d) w=adK m.Prime D (x.zA.length-k) (fo (exx D x m T) k e w) (xL m.Prime D d (wM m.Prime D m.zE w (idM D)))
 | [],_,e,d,_,hd=>by show adK _ _ _ e d=adK _ _ _ e (xL m.Prime D d (idM D));rw[qK hd]
 |a::w,hw,e,d,he,hd=>by
  have hp:=hE.m.p.pos;obtain⟨a1,a2⟩:=hw a (by simp);have hA:=hE.m.mat a a2;have uu:=he;rw[yC (x:=exx D x m T) (by grind[xU])]at uu;cases e with
  |nil=>exact uu.elim
  |cons b e=>
   obtain⟨⟨b0,b1⟩,he1⟩:=uu;have b2:b<at0 x.zA k:=by rw[←sG h hE hT hk];exact b1
   rw[sH,sH,zBD h hE hT hk,yCQ h hE hT hk hc a1 a2 b2 he1 hd,zP3 (by grind) (by grind[yBV]) (wU (by omega)),zDN hA.1]
   congr 2
   show PM _ _ _ (wM m.Prime D m.zE w (idM D))=wM m.Prime D m.zE w (PM m.Prime D (idM D) (m.zE.getD a []));rw[←zHU (by omega) hA.1 w (sS (by omega)),zDm hA,zB9 hA]
end
end Go.Pl

namespace Go.Pl
open Go Go.Ab Go.Wk Go.Pc
inductive Col (x:SPr) (k:Nat):List Nat→List (Nat×List Nat)→List Nat→Prop where
 |refl (w:List Nat):Col x k w [] w
 |step {w w1 w' s:List Nat}{r:Nat}{tr:List (Nat×List Nat)} (hw:∀a∈w,k≤a∧a<x.zA.length) (hs:stS x w=iz (r,s,w1)) (h:Col x k w1 tr w'):Col x k w ((r,s)::tr) w'
theorem Col.trans{x:SPr}{k:Nat}{w w1 w2:List Nat}{t1 t2:List (Nat×List Nat)}(h:Col x k w t1 w1)(h2:Col x k w1 t2 w2):Col x k w (t1++t2) w2:=by
 induction h with
 |refl w=>exact h2
 |step hw hs _ ih=>exact .step hw hs (ih h2)
def tv(p:Int)(D:Nat)(m:zC)(T:Mx):List (Nat×List Nat)→Vec
 | []=>zeros D
 |(r,s)::t=>adv p D (xL p D (T.getD r []) (wM p D m.zE s (idM D))) (tv p D m T t)
section
variable {p:Int}{D:Nat}{m:zC}{T:Mx} (hp:2≤p)
 include hp
theorem zK5:∀t,Row p D (tv p D m T t)
 | []=>xF (by omega)
 |(_,_)::_=>tR (by omega)
theorem zIw:∀t u,tv p D m T (t++u)=adv p D (tv p D m T t) (tv p D m T u)
 | [],u=>(wV (zK5 hp u)).symm
 |(r,s)::t,u=>by show adv p D _ (tv p D m T (t++u))=adv p D (adv p D _ _) _;rw[zIw t u,tH]
theorem zST{A:List Mx}{u v:List Nat}:wM p D A (u++v) (idM D)=PM p D (wM p D A u (idM D)) (wM p D A v (idM D)):=by have hu:=zDn (D:=D) (A:=A) (show 0<p by omega) u (sS hp);rw[zDG,←zHU (by omega) hu.1 v (sS hp),zDm hu]
theorem zFs{A:List Mx}{u v:List Nat}{r:Vec}:xL p D r (wM p D A (u++v) (idM D))=xL p D (xL p D r (wM p D A u (idM D))) (wM p D A v (idM D)):=by have hu:=zDn (D:=D) (A:=A) (show 0<p by omega) u (sS hp);rw[zST hp,zDN hu.1]
theorem zSU(z:List Nat):∀t,tv p D m T (t.map fun q=>(q.1,q.2++z))=xL p D (tv p D m T t) (wM p D m.zE z (idM D))
 | []=>qW.symm
 |(r,s)::t=>by show adv p D (xL p D (T.getD r []) (wM p D m.zE (s++z) (idM D))) (tv p D m T (t.map fun q=>(q.1,q.2++z)))=xL p D (adv p D _ (tv p D m T t)) _;rw[zSU z t,zBu,zFs hp]
end
section
variable {x:SPr} (h:Pres x)
 include h
theorem zNH{a:Nat}(ha:a<x.zA.length):2≤xZ x a:=by
 have:=(h.os.2 a ha).pos
 grind
theorem zBv{v:List Int}{i:Nat}(hv:Exp x.zA v i)(hi:i<x.zA.length):nw 0 v=nw (i+1) (v.drop (i+1))∧ ∀a∈nw 0 v,i+1≤a∧a<x.zA.length:=by
 have _:=h;have e:=zBc hv hi;have e1:nw 0 v=nw (i+1) (v.drop (i+1)):=by rw[e,zDF,zDs,zR,Ju,J8,K1 (by rw[zR])]
 refine⟨e1,fun a ha=>?_⟩;rw[e1]at ha;refine⟨?_,zLF (n:=x.zA.length) (i+1) _ (by rw[Lb,hv.1.1];omega) a ha⟩
 clear e e1 hv
 generalize v.drop (i+1)=y at ha
 generalize i+1=o at ha ⊢
 clear hi
 induction y generalizing o with
 |nil=>grind[nw]
 |cons b y ih=>
  grind[nw]
theorem kH{i j:Nat}(hi:i<j)(hj:j<x.zA.length):Exp x.zA (lcj x i j) i:=by have g:=(h.tl i (by omega)).2.1;exact(h.tl i (by omega)).2.2 (j-(i+1)) (by omega)
theorem zFt{i:Nat}(hi:i<x.zA.length):Exp x.zA (x.zJ.getD i []) i:=(h.tl i hi).1
theorem zSV:∀(o:Nat)(y:Vec),∀a∈nw o y,o≤a
 |_,[],a,ha=>by grind[nw]
 |o,b::y,a,ha=>by
  have _:=h;simp only[nw,Jw]at ha;rcases ha with ha|ha
  ·grind
  ·have:=zSV (o+1) y a ha;omega
theorem zSW{k:Nat}{y:Vec}(hk:k≤x.zA.length)(hy:V (suf x k) y):∀a∈nw k y,k≤a∧a<x.zA.length:=fun a ha=>
 ⟨zSV h k y a ha,zLF (n:=x.zA.length) k y (by grind[vR]) a ha⟩
theorem zSX:∀(d k:Nat),k+d=x.zA.length→ ∀y,V (suf x k) y→stS x (nw k y)=iA
 |0,k,hk,y,hy=>by rw[vQ (x:=x) (k:=k) (by omega)]at hy;obtain rfl:y=[]:=hy;rfl
 |d+1,k,hk,y,hy=>by
  rw[yC (x:=x) (by omega)]at hy;cases y with
  |nil=>rfl
  |cons b y=>
   obtain⟨⟨b0,b1⟩,hy⟩:=hy;change b<at0 x.zA k at b1;simp only[nw];have gH:b.toNat<xZ x k:=by grind
   rw[zIu gH b.toNat (Jf _) fun a ha=>?_,zSX d (k+1) (by omega) y hy]
   ·rfl
   ·have:=zSV h (k+1) y a (by grind[Um])
    omega
theorem Col.ctx{i a:Nat}(hi:i<x.zA.length)(ha:a<xZ x i){s:List Nat}(hs:∀b∈s,i≤b∧b<x.zA.length){w w':List Nat}{tr:List (Nat×List Nat)}(hc:Col x (i+1) w tr w'):
  Col x i (J1 a i++(w++s)) (tr.map fun q=>(q.1,q.2++s)) (J1 a i++(w'++s)):=by
 induction hc with
 |refl w=>exact .refl _
 | @step w w1 w' s1 r tr hw gN _ ih=>
  refine .step (fun b hb=>?_) ?_ ih
  ·grind
  ·rw[zIu ha a (Jf _) fun b hb=>?_,zNG (by grind[zNH]) gN]
   ·rfl
   ·cases w with
    |nil=>cases gN
    |cons c w=>
     simp only[K9,List.head?_cons,Km.injEq]at hb;have:=hw c (by simp);omega
def cwd(x:SPr)(i:Nat):List Nat→List Nat
 | []=>[]
 |l::ur=>cwd x i ur++nw 0 (lcj x i l)
def mtr(x:SPr)(i:Nat):List Nat→List Nat→List (Nat×List Nat)
 | [],_=>[]
 |l::ur,z=>(base x.zA.length i+(l-(i+1)),z)::mtr x i ur (nw 0 (lcj x i l)++z)
theorem zNI{i:Nat}:∀{ur:List Nat},(∀b∈ur,i+1≤b∧b<x.zA.length)→ ∀b∈cwd x i ur,i+1≤b∧b<x.zA.length
 | [],_,b,hb=>by grind[cwd]
 |l::ur,hu,b,hb=>by
  simp only[cwd,Jw]at hb;obtain⟨l1,l2⟩:=hu l (by simp);rcases hb with hb|hb
  ·exact zNI (by grind) b hb
  ·exact(zBv h (kH h (by omega) l2) (by omega)).2 b hb
theorem Col.move{i a:Nat}(hi:i<x.zA.length)(ha:a<xZ x i):∀{ur:List Nat},(∀b∈ur,i+1≤b∧b<x.zA.length)→stS x ur.reverse=iA→ ∀{z:List Nat},(∀b∈z,i≤b∧b<x.zA.length)→
  Col x i (J1 a i++(ur.reverse++i::z)) (mtr x i ur z) (J1 (a+1) i++(cwd x i ur++z))
 | [],_,_,z,_=>by
  have e:J1 a i++(([]:List Nat).reverse++i::z)=J1 (a+1) i++(cwd x i []++z):=by grind[Lv,cwd]
  rw[e];exact .refl _
 |l::ur,hu,hn,z,hz=>by
  obtain⟨l1,l2⟩:=hu l (by simp);have pJ:∀b∈ur,i+1≤b∧b<x.zA.length:=by grind
  have cP:=zBv h (kH h (show i<l by omega) l2) hi;rw[Hb]at hn ⊢
  have tj:=zMd (by grind[zNH]) hn;have fC:∀b∈nw 0 (lcj x i l)++z,i≤b∧b<x.zA.length:=by grind
  have ih:=Col.move hi ha pJ tj fC;rw[show cwd x i (l::ur)++z=cwd x i ur++(nw 0 (lcj x i l)++z)from by simp[cwd]];have e1:ur.reverse++[l]++i::z=ur.reverse++l::i::z:=by simp
  rw[e1];refine .step (fun b hb=>?_) ?_ ih
  ·simp only[Jw,Jp,List.mem_reverse]at hb
   rcases hb with hb|hb|hb|hb|hb
   ·grind
   ·grind
   ·omega
   all_goals grind
  ·rw[zIu ha a (Jf _) fun b hb=>?_,zYf (by grind) (by omega) hn]
   ·rfl
   ·have:b∈ur.reverse++l::i::z:=by grind[Um]
    cases e:ur.reverse with
    |nil=>grind
    |cons c t=>
     grind
end
end Go.Pl

namespace Go.Pl
open Go Go.Ab Go.Wk Go.Pc
theorem zIx{α:Type}(m:α→α→α)(c:Nat→α)(z:α):∀(cs:List α)(v:Vec)(o:Nat)(acc:α),(∀j,j<cs.length→cs.getD j z=c (o+j))→v.length≤cs.length→img m cs v acc=(nw o v).foldl (fun acc j=>m acc (c j)) acc
 |cs,[],o,acc,_,_=>by cases cs<;>rfl
 | [],_::_,_,_,_,h=>by simp at h
 |a::cs,b::v,o,acc,hc,hl=>by
  have h0:=hc 0 (by simp);simp only[Hk,Qm]at h0;have e:∀(k:Nat)(u:α),(J1 k o).foldl (fun acc j=>m acc (c j)) u=iter k (fun v=>m v a) u:=by
   intro k
   induction k with
   |zero=>intro u;rfl
   |succ k ih=>intro u;rw[Jv,Hv,ih,h0];rfl
  show img m cs v (iter b.toNat (fun v=>m v a) acc)=_;simp only[nw,G3];rw[e,zIx m c z cs v (o+1) _ (fun j hj=>by have:=hc (j+1) (by grind);grind) (by grind)]
theorem map_drop{l:List (List Int)}{n i:Nat}:(l.map (·.drop n)).getD i []=(l.getD i []).drop n:=by grind
section
variable {D:Nat}{x:SPr}{m:zC}{T:Mx} (h:Pres x) (hE:ExB x.zA.length D x m T) (hT:∀i,i<T.length→Row m.Prime D (T.getD i []))
 include h hE hT
theorem zWa{k:Nat}(hk:k<x.zA.length)(hc:wH (suf (exx D x m T) k)):wH (suf (exx D x m T) (k+1)):=by rw[yC (x:=exx D x m T) (by grind[xU])]at hc;exact hc.1
theorem zNJ{k:Nat}(hk:k≤x.zA.length):V (suf (exx D x m T) k) (zeros ((exx D x m T).zA.length-k)):=by grind[wJ,uS,yI]
theorem zIy{k:Nat}(hk:k≤x.zA.length):zeros ((exx D x m T).zA.length-k)=zeros (x.zA.length-k)++zeros D:=by rw[xU h hE hT,show x.zA.length+D-k=x.zA.length-k+D from by omega,zGa]
theorem zFu{k:Nat}(hk:k≤x.zA.length){y u:Vec}(hy:V (suf x k) y)(hu:Row m.Prime D u):V (suf (exx D x m T) k) (y++u):=
 (sZ h hE hT (x.zA.length-k) k (by omega) _).2 (by grind)
theorem zAb{k:Nat}(hk:k≤x.zA.length){y u d:Vec}(hy:V (suf x k) y):adK m.Prime D (x.zA.length-k) (y++u) d=y++adv m.Prime D u d:=by have _:=hE;have _:=hT;have er:=vR h hk hy;rw[adK,Jq er,K1 er]
theorem zIz:∀(d k:Nat),k+d=x.zA.length→wH (suf (exx D x m T) k)→ ∀y,V (suf x k) y→fo (exx D x m T) k (zeros ((exx D x m T).zA.length-k)) (nw k y)=y++zeros D
 |0,k,hk,_,y,hy=>by rw[vQ (x:=x) (k:=k) (by omega)]at hy;obtain rfl:y=[]:=hy;rw[zIy h hE hT (by omega),show x.zA.length-k=0 from by omega];rfl
 |d+1,k,hk,hc,y,hy=>by
  have fK:=zWa h hE hT (by omega) hc;have ih:=zIz d (k+1) (by omega) fK;rw[yC (x:=x) (by omega)]at hy;cases y with
  |nil=>exact hy.elim
  |cons b y=>
   obtain⟨⟨b0,b1⟩,hy⟩:=hy;change b<at0 x.zA k at b1;have uf:k<x.zA.length:=by omega
   have hz:=zNJ h hE hT (k:=k+1) (by omega);simp only[nw];rw[zDx];have e1:∀c:Nat,(c:Int)<at0 x.zA k→fo (exx D x m T) k (zeros ((exx D x m T).zA.length-k)) (J1 c k)=(c:Int)::zeros ((exx D x m T).zA.length-(k+1)):=by
    intro c
    induction c with
    |zero=>
     intro _;have hl:=xU h hE hT;rw[show(exx D x m T).zA.length-k=(exx D x m T).zA.length-(k+1)+1 from by omega];rfl
    |succ c ihc=>
     intro gD;rw[Lv,zDx,ihc (by omega)];show mul _ _ _=_;rw[zG1 h hE hT uf fK hz,if_neg (by omega)];have:sig (suf (exx D x m T) (k+1)) (lvl (exx D x m T) k) (zeros ((exx D x m T).zA.length-(k+1)))=zeros ((exx D x m T).zA.length-(k+1)):=by grind[sig,sQ,yI]
     grind
   have e2:∀(w:List Nat)(e:Vec),(∀a∈w,k+1≤a∧a<x.zA.length)→fo (exx D x m T) k (b::e) w=b::fo (exx D x m T) (k+1) e w:=by
    intro w
    induction w with
    |nil=>intro e _;rfl
    |cons a w ihw=>
     intro e hw;rw[sH,zMg h hE hT uf fK (hw a (by simp)).1 (hw a (by simp)).2 b1,ihw _ (by grind)];rfl
   have:=e1 b.toNat (by omega);rw[this,show((b.toNat:Nat):Int)=b from by omega,e2 _ _ fun a ha=>zSW h (by omega) hy a ha,ih y hy];rfl
variable {k:Nat} (hk:k<x.zA.length) (hc:wH (suf (exx D x m T) (k+1)))
 include hk hc
theorem zI0{b:Int}(hb:b<at0 x.zA k):∀(w:List Nat)(e:Vec),(∀a∈w,k+1≤a∧a<x.zA.length)→fo (exx D x m T) k (b::e) w=b::fo (exx D x m T) (k+1) e w
 | [],e,_=>rfl
 |a::w,e,hw=>by rw[sH,zMg h hE hT hk hc (hw a (by simp)).1 (hw a (by simp)).2 hb,zI0 hb w _ (by grind)];rfl
 omit hc in
theorem zQ5:∀{w:List Nat},(∀a∈w,k+1≤a∧a<x.zA.length)→ ∀{e:Vec},V (suf (exx D x m T) (k+1)) e→V (suf (exx D x m T) (k+1)) (fo (exx D x m T) (k+1) e w)
  | [],_,_,he=>he
  |a::w,hw,e,he=>by rw[sH];exact zQ5 (fun b hb=>hw b (by simp[hb])) (yY (uS h hE hT (by omega)) he (zE6 h hE hT (hw a (by simp)).1 (hw a (by simp)).2))
theorem zSY:∀{w:List Nat},(∀a∈w,k+1≤a∧a<x.zA.length)→ ∀{e d:Vec},V (suf (exx D x m T) (k+1)) e→Row m.Prime D d→fo (exx D x m T) (k+1) (adK m.Prime D (x.zA.length-(k+1)) e d) w=adK m.Prime D (x.zA.length-(k+1)) (fo (exx D x m T) (k+1) e w) (xL m.Prime D d (wM m.Prime D m.zE w (idM D)))
 | [],_,e,d,_,hd=>by show adK _ _ _ e d=adK _ _ _ e (xL m.Prime D d (idM D));rw[qK hd]
 |a::w,hw,e,d,he,hd=>by
  have hp:=hE.m.p.pos;obtain⟨a1,a2⟩:=hw a (by simp);have hA:=hE.m.mat a a2;rw[sH,sH,zYi h hE hT hk hc a1 a2 he hd,zSY (by grind) (by grind[yY,uS,zE6]) (wU (by omega)),zDN hA.1]
  congr 2
  show PM _ _ _ (wM m.Prime D m.zE w (idM D))=wM m.Prime D m.zE w (PM m.Prime D (idM D) (m.zE.getD a []));rw[←zHU (by omega) hA.1 w (sS (by omega)),zDm hA,zB9 hA]
theorem zSZ:∀{w:List Nat},(∀a∈w,k+1≤a∧a<x.zA.length)→ ∀{e f:Vec},V (suf (exx D x m T) (k+1)) e→V (suf (exx D x m T) (k+1)) f→fo (exx D x m T) (k+1) (mul (suf (exx D x m T) (k+1)) e f) w=mul (suf (exx D x m T) (k+1)) e (fo (exx D x m T) (k+1) f w)
 | [],_,_,_,_,_=>rfl
 |a::w,hw,e,f,he,hf=>by have gB:=uS h hE hT (k:=k+1) (by omega);have G:=(zDd _ gB hc).toMon;have hg:=zE6 h hE hT (hw a (by simp)).1 (hw a (by simp)).2;rw[sH,sH,G.assoc he hf hg,zSZ (by grind) he (G.cl hf hg)]
theorem zI1{w:List Nat}(hw:∀a∈w,k+1≤a∧a<x.zA.length){e:Vec}(he:V (suf (exx D x m T) (k+1)) e):fo (exx D x m T) (k+1) e w=mul (suf (exx D x m T) (k+1)) e (fo (exx D x m T) (k+1) (zeros ((exx D x m T).zA.length-(k+1))) w):=by rw[←zSZ h hE hT hk hc hw he (by grind[zNJ]),zZE h hE hT (by omega) he]
def dm(p:Int)(D:Nat)(x:SPr)(m:zC)(T:Mx)(k:Nat):List Nat→Vec
 | []=>zeros D
 |l::ur=>adv p D (xL p D (dm p D x m T k ur) (wM p D m.zE (nw 0 (lcj x k l)) (idM D))) (T.getD (base x.zA.length k+(l-(k+1))) [])
 omit h hE hT hk hc in
theorem zNK(hp:2≤m.Prime):∀ur,Row m.Prime D (dm m.Prime D x m T k ur)
  | []=>xF (by omega)
  |_::_=>tR (by omega)
 omit h hE hT hk hc in
theorem zNL(hp:2≤m.Prime):∀(ur:List Nat)(z:List Nat),tv m.Prime D m T (mtr x k ur z)=xL m.Prime D (dm m.Prime D x m T k ur) (wM m.Prime D m.zE z (idM D))
  | [],z=>qW.symm
  |l::ur,z=>by show adv m.Prime D _ (tv m.Prime D m T (mtr x k ur (nw 0 (lcj x k l)++z)))=xL m.Prime D (adv m.Prime D _ _) _;rw[zNL hp ur,zBu,zFs hp,uC]
theorem zTa:∀{ur:List Nat},(∀b∈ur,k+1≤b∧b<x.zA.length)→ur.reverse.foldl (fun acc j=>mul (suf (exx D x m T) (k+1)) acc ((lvl (exx D x m T) k).cs.getD (j-(k+1)) [])) (zeros ((exx D x m T).zA.length-(k+1)))=
  adK m.Prime D (x.zA.length-(k+1)) (fo (exx D x m T) (k+1) (zeros ((exx D x m T).zA.length-(k+1))) (cwd x k ur)) (dm m.Prime D x m T k ur)
 | [],_=>by have hp:=hE.m.p.pos;show zeros _=adK _ _ _ (zeros _) (zeros D);rw[zIy h hE hT (by omega),zAb h hE hT (by omega) (by grind[zv]),wV (xF (by omega))]
 |l::ur,hu=>by
  have hp:=hE.m.p.pos;obtain⟨l1,l2⟩:=hu l (by simp);have pJ:∀b∈ur,k+1≤b∧b<x.zA.length:=by grind
  have gB:=uS h hE hT (k:=k+1) (by omega);have G:=(zDd _ gB hc).toMon;have hz:=zNJ h hE hT (k:=k+1) (by omega);have pX:=zNI h pJ;have hF:=zQ5 h hE hT hk pX hz;have cP:=zBv h (kH h (show k<l by omega) l2) hk;have gD:V (suf x (k+1)) ((lcj x k l).drop (k+1)):=by grind[zB7,kH]
  have pt:(lvl x k).cs.getD (l-(k+1)) []=(lcj x k l).drop (k+1):=map_drop;have ht:=zFp h hE hT (show k<l by omega) l2;have hd:=zNK (D:=D) (x:=x) (m:=m) (T:=T) (k:=k) (by omega) ur;have uo:=zIz h hE hT (x.zA.length-(k+1)) (k+1) (by omega) hc _ gD;have fx:=zFu h hE hT (k:=k+1) (by omega) gD (xF (p:=m.Prime) (D:=D) (by omega));rw[Hb,G3,zTa pJ];show mul _ (adK _ _ _ _ _) ((lvl (exx D x m T) k).cs.getD (l-(k+1)) [])=_;rw[zMa h hE hT hk l1 l2,pt];have e1:(lcj x k l).drop (k+1)++T.getD (base x.zA.length k+(l-(k+1))) []=adK m.Prime D (x.zA.length-(k+1)) ((lcj x k l).drop (k+1)++zeros D) (T.getD (base x.zA.length k+(l-(k+1))) []):=by grind[zAb,wV]
  have gU:∀b∈nw (k+1) ((lcj x k l).drop (k+1)),k+1≤b∧b<x.zA.length:=by grind
  have eW:=zZF h hE hT (k:=k+1) (by omega) hF (d:=dm m.Prime D x m T k ur);rw[e1,zMf h hE hT hk hc fx ht eW,←uo,←zI1 h hE hT hk hc gU eW,zSY h hE hT hk hc gU hF hd,zYg h hE hT (by omega) (zQ5 h hE hT hk gU hF),←zDx,←cP.1];rfl
theorem zP4{y:Vec}(hy:V (suf x (k+1)) y):sig (suf (exx D x m T) (k+1)) (lvl (exx D x m T) k) (y++zeros D)=adK m.Prime D (x.zA.length-(k+1)) (fo (exx D x m T) (k+1) (zeros ((exx D x m T).zA.length-(k+1))) (cwd x k (nw (k+1) y).reverse)) (dm m.Prime D x m T k (nw (k+1) y).reverse):=by have hp:=hE.m.p.pos;have er:=vR h (by omega) hy;have gU:=zSW h (by omega) hy;rw[←zTa h hE hT hk hc (by grind),K0,zE2 h hE hT hk hy (xF (by omega)),qW];obtain⟨y1,u1,e,fq,ck⟩:=(sZ h hE hT (x.zA.length-(k+1)) (k+1) (by omega) _).1 (zJ6 h hE hT hk (y:=y));have eu:=vR h (by omega) fq;rw[e,Jq eu,K1 eu,zBs ck,←e];unfold sgG;rw[yI];refine zIx _ (fun j=>(lvl (exx D x m T) k).cs.getD (j-(k+1)) []) [] _ _ _ _ (fun j hj=>?_) (by grind[zBa]);rw[zBa h hE hT]at hj;rw[show k+1+j-(k+1)=j from by omega,zE1 h hE hT hk,J2,J2,K5 (by grind[zBa])]
end
end Go.Pl

namespace Go.Pl
open Go Go.Ab Go.Wk Go.Pc
section
variable {x:SPr} (h:Pres x)
 include h
theorem zMh{D:Nat}{m:zC}{T:Mx}(hE:ExB x.zA.length D x m T)(hT:∀i,i<T.length→Row m.Prime D (T.getD i [])){k:Nat}(hk:k≤x.zA.length)(hc:wH (suf (exx D x m T) k)):wH (suf (exx D x m T) (k+1)):=by
 have hl:=xU h hE hT
 by_cases g:k<x.zA.length+D
 ·rw[yC (x:=exx D x m T) (by omega)]at hc
  exact hc.1
 ·rw[vQ (by omega)]at hc ⊢
  exact hc
structure sD (x:SPr) (k:Nat) (z:List Nat) (tr:List (Nat×List Nat)) (y:Vec):Prop where
 col:Col x k z tr (nw k y)
 v:V (suf x k) y
 val:∀(D:Nat)(m:zC)(T:Mx),ExB x.zA.length D x m T→(∀i,i<T.length→Row m.Prime D (T.getD i []))→wH (suf (exx D x m T) (k+1))→fo (exx D x m T) k (zeros ((exx D x m T).zA.length-k)) z=y++tv m.Prime D m T tr
theorem zP5{k:Nat}(hk:k<x.zA.length)(P:∀v:List Nat,(∀a∈v,k+1≤a∧a<x.zA.length)→ ∃tr y,sD x (k+1) v tr y):∀(z:List Nat),(∀a∈z,k≤a∧a<x.zA.length)→ ∀(a:Nat),a<xZ x k→ ∀(v:List Nat),(∀a∈v,k+1≤a∧a<x.zA.length)→
  ∃tr y,Col x k (J1 a k++(v++z)) tr (nw k y)∧V (suf x k) y∧ ∀(D:Nat)(m:zC)(T:Mx),ExB x.zA.length D x m T→(∀i,i<T.length→Row m.Prime D (T.getD i []))→wH (suf (exx D x m T) (k+1))→
   fo (exx D x m T) k ((a:Int)::fo (exx D x m T) (k+1) (zeros ((exx D x m T).zA.length-(k+1))) v) z=y++tv m.Prime D m T tr
 | [],_,a,ha,v,hv=>by
  obtain⟨tr,y,c1,c2,c3⟩:=P v hv;have hc:=Col.ctx h hk ha (s:=[]) (by simp) c1;rw[show(fun q:Nat×List Nat=>(q.1,q.2++[]))=id from by grind,List.map_id,J9,J9]at hc;refine⟨tr,(a:Int)::y,?_,?_,fun D m T hE hT hc=>?_⟩
  ·grind[nw]
  ·rw[yC hk]
   refine⟨⟨by omega,?_⟩,c2⟩;show(a:Int)<at0 x.zA k
   grind
  ·rw[c3 D m T hE hT (by grind[zMh])];rfl
 |l::z,hz,a,ha,v,hv=>by
  have fC:∀b∈z,k≤b∧b<x.zA.length:=by grind
  obtain⟨l1,l2⟩:=hz l (by simp);have ax:(a:Int)<at0 x.zA k:=by grind
  rcases Jg k l with g|g
  ·obtain⟨tr,y,c1,c2,c3⟩:=zP5 hk P z fC a ha (v++[l]) (by grind)
   refine⟨tr,y,by grind,c2,fun D m T hE hT hc=>?_⟩;rw[←c3 D m T hE hT hc,sH,zMg h hE hT hk hc g l2 ax,zDx];rfl
  ·obtain rfl:l=k:=by omega
   obtain⟨tr1,y1,c1,c2,c3⟩:=P v hv;have gU:=zSW h (by omega) c2;have tz:∀b∈(nw (l+1) y1).reverse,l+1≤b∧b<x.zA.length:=by grind
   have k1:=Col.ctx h hk ha (s:=l::z) hz c1;have k2:=Col.move h hk ha tz (by rw[K0];exact zSX h _ _ (by omega:l+1+(x.zA.length-(l+1))=x.zA.length) y1 c2) fC;rw[K0]at k2;have pX:=zNI h tz;have val:∀(D:Nat)(m:zC)(T:Mx)(hE:ExB x.zA.length D x m T)(hT:∀i,i<T.length→Row m.Prime D (T.getD i []))(hc:wH (suf (exx D x m T) (l+1))),
     fo (exx D x m T) l ((a:Int)::fo (exx D x m T) (l+1) (zeros ((exx D x m T).zA.length-(l+1))) v) (l::z)=adK m.Prime D (x.zA.length-l) (fo (exx D x m T) l (mul (suf (exx D x m T) l) ((a:Int)::(y1++zeros D)) (xD ((exx D x m T).zA.length-l) (l-l))) z) (tv m.Prime D m T (tr1.map fun q=>(q.1,q.2++l::z))):=by
    intro D m T hE hT hc;have hp:=hE.m.p.pos;have ht:=zK5 (D:=D) (m:=m) (T:=T) (p:=m.Prime) (by omega) tr1;have bx:=zFu h hE hT (k:=l+1) (by omega) c2 (xF (p:=m.Prime) (D:=D) (by omega));have pZ:V (suf (exx D x m T) l) ((a:Int)::(y1++zeros D)):=by rw[yC (x:=exx D x m T) (by rw[xU h hE hT];omega)];refine⟨⟨by omega,?_⟩,bx⟩;show(a:Int)<at0 (exx D x m T).zA l;rw[sG h hE hT hk];exact ax
    rw[c3 D m T hE hT (zMh h hE hT (by omega) hc),show y1++tv m.Prime D m T tr1=adK m.Prime D (x.zA.length-(l+1)) (y1++zeros D) (tv m.Prime D m T tr1)from by rw[zAb h hE hT (by omega) c2,wV ht],←zBD h hE hT hk,zP3 h hE hT hk hc hz pZ ht,zSU (by omega)];rfl
   have foV:∀(D:Nat)(m:zC)(T:Mx)(hE:ExB x.zA.length D x m T)(hT:∀i,i<T.length→Row m.Prime D (T.getD i []))(_hc:wH (suf (exx D x m T) (l+1))),V (suf (exx D x m T) (l+1)) (fo (exx D x m T) (l+1) (zeros ((exx D x m T).zA.length-(l+1))) (cwd x l (nw (l+1) y1).reverse)):=fun D m T hE hT _hc=>zQ5 h hE hT hk pX (zNJ h hE hT (by omega))
   rcases Jg (a+1) (xZ x l)with g2|g2
   ·obtain⟨tr2,y2,d1,d2,d3⟩:=zP5 hk P z fC (a+1) g2 (cwd x l (nw (l+1) y1).reverse) pX
    refine⟨_,y2,k1.trans (k2.trans d1),d2,fun D m T hE hT hc=>?_⟩;have hp:=hE.m.p.pos;have bx:=zFu h hE hT (k:=l+1) (by omega) c2 (xF (p:=m.Prime) (D:=D) (by omega));have g3:(a:Int)+1<at0 x.zA l:=by have:a+1<(at0 x.zA l).toNat:=g2;omega
    have hF:=foV D m T hE hT hc;have pZ:V (suf (exx D x m T) l) (((a:Int)+1)::fo (exx D x m T) (l+1) (zeros ((exx D x m T).zA.length-(l+1))) (cwd x l (nw (l+1) y1).reverse)):=by rw[yC (x:=exx D x m T) (by rw[xU h hE hT];omega)];refine⟨⟨by omega,?_⟩,hF⟩;show(a:Int)+1<at0 (exx D x m T).zA l;rw[sG h hE hT hk];exact g3
    have hd:=zNK (D:=D) (x:=x) (m:=m) (T:=T) (k:=l) (by omega) (nw (l+1) y1).reverse;have d3':=d3 D m T hE hT hc;rw[show(((a+1:Nat):Int))=(a:Int)+1 from by omega]at d3';rw[val D m T hE hT hc,zG1 h hE hT hk hc bx,if_neg (by omega),zP4 h hE hT hk hc c2,←zBD h hE hT hk,zP3 h hE hT hk hc fC pZ hd,d3',zAb h hE hT (by omega) d2,zAb h hE hT (by omega) d2,←zNL (by omega),zIw (by omega),zIw (by omega),uC,uC (u:=tv m.Prime D m T tr2)]
   ·have g4:a+1=xZ x l:=by omega
    have mn:=zFt h hk;have pm:=zBv h mn hk;have hvv:∀b∈nw 0 (x.zJ.getD l [])++cwd x l (nw (l+1) y1).reverse,l+1≤b∧b<x.zA.length:=fun b hb=>by
     simp only[Jw]at hb;rcases hb with hb|hb
     ·exact pm.2 b hb
     ·exact pX b hb
    obtain⟨tr2,y2,d1,d2,d3⟩:=zP5 hk P z fC 0 (by omega) _ hvv;rw[Lu,Ju,Jh]at d1;have k3:Col x l (J1 (a+1) l++(cwd x l (nw (l+1) y1).reverse++z)) ((l,cwd x l (nw (l+1) y1).reverse++z)::tr2) (nw l y2):=by
     refine .step (fun b hb=>?_) (by rw[g4];exact yBU (zNH h hk) _) d1;simp only[Jw]at hb;rcases hb with hb|hb|hb
     ·have:=Uv hb;omega
     ·have:=pX b hb;omega
     ·exact fC b hb
    refine⟨_,y2,k1.trans (k2.trans k3),d2,fun D m T hE hT hc=>?_⟩;have hp:=hE.m.p.pos;have bx:=zFu h hE hT (k:=l+1) (by omega) c2 (xF (p:=m.Prime) (D:=D) (by omega));have g3:(a:Int)+1=at0 x.zA l:=by have:a+1=(at0 x.zA l).toNat:=g4;omega
    have hF:=foV D m T hE hT hc;have hd:=zNK (D:=D) (x:=x) (m:=m) (T:=T) (k:=l) (by omega) (nw (l+1) y1).reverse;have eB:=zDv h hE hT hk;have cj:V (suf x (l+1)) ((x.zJ.getD l []).drop (l+1)):=zB7 mn hk;have pd:=zFu h hE hT (k:=l+1) (by omega) cj (xF (p:=m.Prime) (D:=D) (by omega));have hw:(lvl (exx D x m T) l).w=adK m.Prime D (x.zA.length-(l+1)) ((x.zJ.getD l []).drop (l+1)++zeros D) (T.getD l []):=by rw[zLW h hE hT hk,zAb h hE hT (by omega) cj,wV eB];rfl
    have ph:=zVZ h hE hT hk;have hFw:=zQ5 h hE hT hk hvv (zNJ h hE hT (by omega));have em:mul (suf (exx D x m T) (l+1)) (lvl (exx D x m T) l).w (fo (exx D x m T) (l+1) (zeros ((exx D x m T).zA.length-(l+1))) (cwd x l (nw (l+1) y1).reverse))=adK m.Prime D (x.zA.length-(l+1)) (fo (exx D x m T) (l+1) (zeros ((exx D x m T).zA.length-(l+1))) (nw 0 (x.zJ.getD l [])++cwd x l (nw (l+1) y1).reverse)) (xL m.Prime D (T.getD l []) (wM m.Prime D m.zE (cwd x l (nw (l+1) y1).reverse) (idM D))):=by rw[←zI1 h hE hT hk hc pX ph,hw,zSY h hE hT hk hc pX pd eB,←zIz h hE hT _ (l+1) (by omega:l+1+(x.zA.length-(l+1))=x.zA.length) hc _ cj,←zDx,←pm.1]
    have pZ:V (suf (exx D x m T) l) ((0:Int)::fo (exx D x m T) (l+1) (zeros ((exx D x m T).zA.length-(l+1))) (nw 0 (x.zJ.getD l [])++cwd x l (nw (l+1) y1).reverse)):=by rw[yC (x:=exx D x m T) (by rw[xU h hE hT];omega)];refine⟨⟨by omega,?_⟩,hFw⟩;show(0:Int)<at0 (exx D x m T).zA l;rw[sG h hE hT hk];omega
    have d3':=d3 D m T hE hT hc;rw[show(((0:Nat):Int))=0 from rfl]at d3';rw[val D m T hE hT hc,zG1 h hE hT hk hc bx,if_pos (by omega),zP4 h hE hT hk hc c2,zMf h hE hT hk hc hF hd ph,em,zYg h hE hT (by omega) hFw,g3,Int.sub_self,←zBD h hE hT hk,zP3 h hE hT hk hc fC pZ (tR (by omega)),d3',zAb h hE hT (by omega) d2,zAb h hE hT (by omega) d2,zBu,←zNL (by omega),←zFs (by omega),zIw (by omega),zIw (by omega)];show y2++adv m.Prime D (adv m.Prime D (tv m.Prime D m T tr2) (adv m.Prime D _ _)) _=y2++adv m.Prime D _ (adv m.Prime D _ (adv m.Prime D _ (tv m.Prime D m T tr2)));rw[uC,uC (u:=tv m.Prime D m T tr2),uC (u:=xL m.Prime D (T.getD l []) _),tH]
theorem yBW:∀(d k:Nat),k+d=x.zA.length→ ∀z:List Nat,(∀a∈z,k≤a∧a<x.zA.length)→ ∃tr y,sD x k z tr y
 |0,k,hk,z,hz=>by
  have:z=[]:=by
   cases z with
   |nil=>rfl
   |cons a z=>have:=hz a (by simp);omega
  subst this;refine⟨[],[],.refl _,by rw[vQ (x:=x) (k:=k) (by omega)];rfl,fun D m T hE hT _=>?_⟩;show zeros _=[]++zeros D;rw[zIy h hE hT (by omega),show x.zA.length-k=0 from by omega];rfl
 |d+1,k,hk,z,hz=>by have ho:=zNH h (show k<x.zA.length by omega);obtain⟨tr,y,c1,c2,c3⟩:=zP5 h (by omega) (yBW d (k+1) (by omega)) z hz 0 (by omega) [] (by simp);refine⟨tr,y,by grind,c2,fun D m T hE hT hc=>?_⟩;rw[←c3 D m T hE hT hc];have hl:=xU h hE hT;rw[show(exx D x m T).zA.length-k=(exx D x m T).zA.length-(k+1)+1 from by omega];rfl
end
end Go.Pl

namespace Go.Pl
open Go Go.Ab Go.Wk Go.Pc
section
variable {D:Nat}{x:SPr}{m:zC}{T:Mx} (h:Pres x) (hE:ExB x.zA.length D x m T) (hT:∀i,i<T.length→Row m.Prime D (T.getD i []))
 include h hE hT
variable {k:Nat} (hk:k<x.zA.length) (hc:wH (suf (exx D x m T) (k+1)))
 include hk hc
theorem zGW{w1 w2:List Nat}{t1 t2:List (Nat×List Nat)}{y1 y2:Vec}(k1:sD x k w1 t1 y1)(k2:sD x k w2 t2 y2){r1 r2:Nat}{s1 s2:List Nat}{b:Int}{A1 A2:Vec}(hA1:V (suf (exx D x m T) (k+1)) A1)(hA2:V (suf (exx D x m T) (k+1)) A2)
  (v1:fo (exx D x m T) k (zeros ((exx D x m T).zA.length-k)) w1=b::A1)(v2:fo (exx D x m T) k (zeros ((exx D x m T).zA.length-k)) w2=b::A2)
  (eB:(adK m.Prime D (x.zA.length-(k+1)) A1 (xL m.Prime D (T.getD r1 []) (wM m.Prime D m.zE s1 (idM D)))).take (x.zA.length-(k+1))=(adK m.Prime D (x.zA.length-(k+1)) A2 (xL m.Prime D (T.getD r2 []) (wM m.Prime D m.zE s2 (idM D)))).take (x.zA.length-(k+1))):
  y1=y2∧(tv m.Prime D m T ((r1,s1)::t1)=tv m.Prime D m T ((r2,s2)::t2)↔adK m.Prime D (x.zA.length-(k+1)) A1 (xL m.Prime D (T.getD r1 []) (wM m.Prime D m.zE s1 (idM D)))=adK m.Prime D (x.zA.length-(k+1)) A2 (xL m.Prime D (T.getD r2 []) (wM m.Prime D m.zE s2 (idM D)))):=by
 have _:=hA1;have _:=hA2;have key:∀(w:List Nat)(t:List (Nat×List Nat))(y:Vec)(A:Vec)(r:Nat)(s:List Nat),sD x k w t y→fo (exx D x m T) k (zeros ((exx D x m T).zA.length-k)) w=b::A→
   b::adK m.Prime D (x.zA.length-(k+1)) A (xL m.Prime D (T.getD r []) (wM m.Prime D m.zE s (idM D)))=y++tv m.Prime D m T ((r,s)::t):=by
  intro w t y A r s kc v;rw[←zBD h hE hT hk,←v,kc.val D m T hE hT hc,zAb h hE hT (by omega) kc.v,uC];rfl
 have e1:=key w1 t1 y1 A1 r1 s1 k1 v1;have e2:=key w2 t2 y2 A2 r2 s2 k2 v2;have l1:=vR h (by omega) k1.v;have l2:=vR h (by omega) k2.v;have hy:y1=y2:=by
  have a1:=congrArg (Qo (x.zA.length-(k+1)+1)) e1;have a2:=congrArg (Qo (x.zA.length-(k+1)+1)) e2
  grind
 subst hy;refine⟨rfl,?_⟩;constructor
 all_goals grind[List.append_cancel_left]
theorem zE7{v:List Nat}(hv:∀a∈v,k+1≤a∧a<x.zA.length){z:List Nat}:fo (exx D x m T) k (zeros ((exx D x m T).zA.length-k)) (v++k::z)=fo (exx D x m T) k ((1:Int)::sig (suf (exx D x m T) (k+1)) (lvl (exx D x m T) k) (fo (exx D x m T) (k+1) (zeros ((exx D x m T).zA.length-(k+1))) v)) z:=by
 have ho:=(h.os.2 k hk).pos;have hl:=xU h hE hT;have hF:=zQ5 h hE hT hk hv (zNJ h hE hT (by omega));rw[show zeros ((exx D x m T).zA.length-k)=0::zeros ((exx D x m T).zA.length-(k+1))from by rw[show(exx D x m T).zA.length-k=(exx D x m T).zA.length-(k+1)+1 from by omega];rfl,zDx,zI0 h hE hT hk hc (by omega) v _ hv,sH,zG1 h hE hT hk hc hF,if_neg (by omega)];rfl
 omit hc in
theorem zFv{y:Vec}(hy:V (suf x (k+1)) y):sig (suf (exx D x m T) (k+1)) (lvl (exx D x m T) k) (y++zeros D)=(nw (k+1) y).foldl (fun acc j=>mul (suf (exx D x m T) (k+1)) acc ((lvl (exx D x m T) k).cs.getD (j-(k+1)) [])) (zeros ((exx D x m T).zA.length-(k+1))):=by
  have hp:=hE.m.p.pos;have er:=vR h (by omega) hy;rw[zE2 h hE hT hk hy (xF (by omega)),qW];obtain⟨y1,u1,e,fq,ck⟩:=(sZ h hE hT (x.zA.length-(k+1)) (k+1) (by omega) _).1 (zJ6 h hE hT hk (y:=y));have eu:=vR h (by omega) fq;rw[e,Jq eu,K1 eu,zBs ck,←e];unfold sgG;rw[yI];refine zIx _ (fun j=>(lvl (exx D x m T) k).cs.getD (j-(k+1)) []) [] _ _ _ _ (fun j hj=>?_) (by grind[zBa])
  grind[zE1]
 omit hc in
theorem zTb{j:Nat}(h1:k+1≤j)(h2:j<x.zA.length):V (suf (exx D x m T) (k+1)) ((lvl (exx D x m T) k).cs.getD (j-(k+1)) []):=by
  have gD:V (suf x (k+1)) ((lcj x k j).drop (k+1)):=by grind[zB7,kH]
  rw[zMa h hE hT hk h1 h2,show(lvl x k).cs.getD (j-(k+1)) []=(lcj x k j).drop (k+1)from map_drop]
  grind[zFu,zFp]
theorem zMi:∀{v:List Nat},(∀a∈v,k+1≤a∧a<x.zA.length)→ ∀{e f:Vec},V (suf (exx D x m T) (k+1)) e→V (suf (exx D x m T) (k+1)) f→v.foldl (fun acc j=>mul (suf (exx D x m T) (k+1)) acc ((lvl (exx D x m T) k).cs.getD (j-(k+1)) [])) (mul (suf (exx D x m T) (k+1)) e f)=mul (suf (exx D x m T) (k+1)) e (v.foldl (fun acc j=>mul (suf (exx D x m T) (k+1)) acc ((lvl (exx D x m T) k).cs.getD (j-(k+1)) [])) f)
 | [],_,_,_,_,_=>rfl
 |a::w,hw,e,f,he,hf=>by have gB:=uS h hE hT (k:=k+1) (by omega);have G:=(zDd _ gB hc).toMon;have hg:=zTb h hE hT hk (hw a (by simp)).1 (hw a (by simp)).2;simp only[Hv];rw[G.assoc he hf hg,zMi (by grind) he (G.cl hf hg)]
theorem csE{j:Nat}(h1:k+1≤j)(h2:j<x.zA.length):V (suf x (k+1)) ((lcj x k j).drop (k+1))∧(lvl (exx D x m T) k).cs.getD (j-(k+1)) []=adK m.Prime D (x.zA.length-(k+1)) ((lcj x k j).drop (k+1)++zeros D) (T.getD (base x.zA.length k+(j-(k+1))) [])∧
  fo (exx D x m T) (k+1) (zeros ((exx D x m T).zA.length-(k+1))) (nw 0 (lcj x k j))=(lcj x k j).drop (k+1)++zeros D∧(∀a∈nw 0 (lcj x k j),k+1≤a∧a<x.zA.length):=by
 have gD:V (suf x (k+1)) ((lcj x k j).drop (k+1)):=by grind[zB7,kH]
 have cP:=zBv h (kH h (show k<j by omega) h2) hk;refine⟨gD,?_,?_,cP.2⟩
 ·rw[zMa h hE hT hk h1 h2,show(lvl x k).cs.getD (j-(k+1)) []=(lcj x k j).drop (k+1)from map_drop,zAb h hE hT (by omega) gD,wV (zFp h hE hT (by omega) h2)]
 ·rw[cP.1];exact zIz h hE hT _ (k+1) (by omega:k+1+(x.zA.length-(k+1))=x.zA.length) hc _ gD
theorem wE:V (suf x (k+1)) ((x.zJ.getD k []).drop (k+1))∧(lvl (exx D x m T) k).w=adK m.Prime D (x.zA.length-(k+1)) ((x.zJ.getD k []).drop (k+1)++zeros D) (T.getD k [])∧
  fo (exx D x m T) (k+1) (zeros ((exx D x m T).zA.length-(k+1))) (nw 0 (x.zJ.getD k []))=(x.zJ.getD k []).drop (k+1)++zeros D∧(∀a∈nw 0 (x.zJ.getD k []),k+1≤a∧a<x.zA.length):=by
 have cj:V (suf x (k+1)) ((x.zJ.getD k []).drop (k+1)):=zB7 (zFt h hk) hk;have pm:=zBv h (zFt h hk) hk;refine⟨cj,?_,?_,pm.2⟩
 ·rw[zLW h hE hT hk,zAb h hE hT (by omega) cj,wV (zDv h hE hT hk)];rfl
 ·rw[pm.1];exact zIz h hE hT _ (k+1) (by omega:k+1+(x.zA.length-(k+1))=x.zA.length) hc _ cj
 omit hc in
theorem zK6{a:Nat}(ha:a<x.zA.length):wM m.Prime D m.zE [a] (idM D)=m.zE.getD a []:=by have _:=h;have _:=hT;have _:=hk;show PM m.Prime D (idM D) (m.zE.getD a [])=_;exact zB9 (hE.m.mat a ha)
theorem zTc(hL:LC x k){t1 t2:List (Nat×List Nat)}{y1 y2:Vec}(k1:sD x k (nw 0 (x.zJ.getD k [])++[k]) t1 y1)(k2:sD x k (k::nw 0 (x.zJ.getD k [])) t2 y2):
  y1=y2∧(tv m.Prime D m T ((k,[k])::t1)=tv m.Prime D m T ((k,[])::t2)↔sig (suf (exx D x m T) (k+1)) (lvl (exx D x m T) k) (lvl (exx D x m T) k).w=(lvl (exx D x m T) k).w):=by
 have hp:=hE.m.p.pos;have ho:=(h.os.2 k hk).pos;obtain⟨w1,w2,w3,w4⟩:=wE h hE hT hk hc;have eB:=zDv h hE hT hk;have pd:=zFu h hE hT (k:=k+1) (by omega) w1 (xF (p:=m.Prime) (D:=D) (by omega));have ph:=zVZ h hE hT hk;have v1:=zE7 h hE hT hk hc w4 (z:=[]);rw[w3]at v1;have v2:=zE7 h hE hT hk hc (v:=[]) (by simp) (z:=nw 0 (x.zJ.getD k []));have hz:fo (exx D x m T) (k+1) (zeros ((exx D x m T).zA.length-(k+1))) []=zeros ((exx D x m T).zA.length-(k+1)):=rfl;have hs:sig (suf (exx D x m T) (k+1)) (lvl (exx D x m T) k) (zeros ((exx D x m T).zA.length-(k+1)))=zeros ((exx D x m T).zA.length-(k+1)):=by grind[sig,sQ,yI]
 rw[hz,hs,zI0 h hE hT hk hc (by omega) _ _ w4,w3]at v2;have e1:adK m.Prime D (x.zA.length-(k+1)) (sig (suf (exx D x m T) (k+1)) (lvl (exx D x m T) k) ((x.zJ.getD k []).drop (k+1)++zeros D)) (xL m.Prime D (T.getD k []) (wM m.Prime D m.zE [k] (idM D)))=sig (suf (exx D x m T) (k+1)) (lvl (exx D x m T) k) (lvl (exx D x m T) k).w:=by grind[zK6,zIv]
 have e2:adK m.Prime D (x.zA.length-(k+1)) ((x.zJ.getD k []).drop (k+1)++zeros D) (xL m.Prime D (T.getD k []) (wM m.Prime D m.zE [] (idM D)))=(lvl (exx D x m T) k).w:=by rw[show wM m.Prime D m.zE [] (idM D)=idM D from rfl,qK eB,w2]
 obtain⟨hy,this⟩:=zGW h hE hT hk hc k1 k2 (r1:=k) (r2:=k) (s1:=[k]) (s2:=[]) (zCA h hE hT hk pd) pd v1 v2 (by rw[e1,e2,zE4 h hE hT hk ph,zLW h hE hT hk,Jq (by have:=vR h (by omega) w1;exact this)];exact hL.c3)
 refine⟨hy,?_⟩
 grind
end
end Go.Pl

namespace Go.Pl
open Go Go.Ab Go.Wk Go.Pc
theorem zYj:∀(a o:Nat)(b:Int)(c:Vec),nw o (zeros a++b::c)=J1 b.toNat (o+a)++nw (o+a+1) c
 |0,o,b,c=>rfl
 |a+1,o,b,c=>by rw[show zeros (a+1)++b::c=0::(zeros a++b::c)from rfl];simp only[nw,Hy,Lu,Ju];rw[zYj a (o+1) b c,show o+1+a=o+(a+1)from by omega]
theorem zTd{os v:List Int}{j k:Nat}(hv:Exp os v j)(hk:k≤j):Exp os v k:=⟨hv.1,fun i hi=>hv.2 i (by omega)⟩
section
variable {x:SPr} (h:Pres x)
 include h
theorem zYk:∀(a k:Nat){b:Int}{c:Vec},k+a<x.zA.length→0≤b→b<at0 x.zA (k+a)→V (suf x (k+a+1)) c→V (suf x k) (zeros a++b::c)
 |0,k,b,c,ha,h0,h1,hc=>by rw[yC (x:=x) (by omega)];exact⟨⟨h0,h1⟩,hc⟩
 |a+1,k,b,c,ha,h0,h1,hc=>by
  have:=(h.os.2 k (by omega)).pos;rw[yC (x:=x) (by omega)];refine⟨⟨Int.le_refl 0,?_⟩,?_⟩
  ·show(0:Int)<at0 x.zA k
   omega
  ·exact zYk a (k+1) (by omega) h0 (by grind) (by grind)
end
section
variable {D:Nat}{x:SPr}{m:zC}{T:Mx} (h:Pres x) (hE:ExB x.zA.length D x m T) (hT:∀i,i<T.length→Row m.Prime D (T.getD i []))
 include h hE hT
variable {k:Nat} (hk:k<x.zA.length) (hc:wH (suf (exx D x m T) (k+1)))
 include hk hc
theorem zNM{j:Nat}(h1:k+1≤j)(h2:j<x.zA.length){b:Int}(h0:0≤b)(hb:b<at0 x.zA j){c:Vec}(ch:V (suf x (j+1)) c):V (suf x (k+1)) (zeros (j-(k+1))++b::c)∧nw (k+1) (zeros (j-(k+1))++b::c)=J1 b.toNat j++nw (j+1) c∧
  fo (exx D x m T) (k+1) (zeros ((exx D x m T).zA.length-(k+1))) (J1 b.toNat j++nw (j+1) c)=(zeros (j-(k+1))++b::c)++zeros D:=by
 have e:k+1+(j-(k+1))=j:=by omega
 have hv:V (suf x (k+1)) (zeros (j-(k+1))++b::c):=by grind[zYk]
 have hn:nw (k+1) (zeros (j-(k+1))++b::c)=J1 b.toNat j++nw (j+1) c:=by rw[zYj,e]
 refine⟨hv,hn,?_⟩;rw[←hn];exact zIz h hE hT _ (k+1) (by omega:k+1+(x.zA.length-(k+1))=x.zA.length) hc _ hv
theorem zP6{e:Vec}(he:V (suf (exx D x m T) (k+1)) e):mul (suf (exx D x m T) (k+1)) (zeros ((exx D x m T).zA.length-(k+1))) e=e:=by
 have G:=(zDd _ (uS h hE hT (k:=k+1) (by omega)) hc).toMon;have:=G.onel he
 grind[yI]
theorem zP7{j:Nat}(h1:k+1≤j)(h2:j<x.zA.length):fo (exx D x m T) (k+1) (zeros ((exx D x m T).zA.length-(k+1))) [j]=xD ((exx D x m T).zA.length-(k+1)) (j-(k+1))∧sig (suf (exx D x m T) (k+1)) (lvl (exx D x m T) k) (xD ((exx D x m T).zA.length-(k+1)) (j-(k+1)))=(lvl (exx D x m T) k).cs.getD (j-(k+1)) []:=by
 have ho:=(h.os.2 j h2).pos;have hz:V (suf x (j+1)) (zeros (x.zA.length-(j+1))):=by have:=wJ (h.okAt (k:=j+1) (by omega));grind[yI]
 obtain⟨v1,v2,v3⟩:=zNM h hE hT hk hc h1 h2 (b:=1) (by omega) (by omega) hz;have hn:nw (j+1) (zeros (x.zA.length-(j+1)))=[]:=zDs _ _;rw[hn]at v2 v3;have hf:fo (exx D x m T) (k+1) (zeros ((exx D x m T).zA.length-(k+1))) [j]=xD ((exx D x m T).zA.length-(k+1)) (j-(k+1)):=zP6 h hE hT hk hc (zE6 h hE hT h1 h2);refine⟨hf,?_⟩;rw[←hf];have v3':fo (exx D x m T) (k+1) (zeros ((exx D x m T).zA.length-(k+1))) [j]=_:=v3
 grind[zFv,zP6,zTb]
theorem zTe(hL:LC x k){j:Nat}(h1:k+1≤j)(h2:j<x.zA.length){t1 t2:List (Nat×List Nat)}{y1 y2:Vec}(k1:sD x k (nw 0 (x.zJ.getD j [])++[k]) t1 y1)(k2:sD x k (J1 (xZ x j-1) j++k::nw 0 (lcj x k j)) t2 y2):
  y1=y2∧(tv m.Prime D m T ((j,[k])::t1)=tv m.Prime D m T ((base x.zA.length k+(j-(k+1)),[])::t2)↔c1E (exx D x m T) k j):=by
 have hp:=hE.m.p.pos;have ho:=(h.os.2 k hk).pos;have hj:=(h.os.2 j h2).pos;have mn:=zTd (zFt h h2) (show k≤j by omega);have cj:V (suf x (k+1)) ((x.zJ.getD j []).drop (k+1)):=zB7 mn hk;have pm:=zBv h mn hk;have bM:=zDv h hE hT h2;have pd:=zFu h hE hT (k:=k+1) (by omega) cj (xF (p:=m.Prime) (D:=D) (by omega));obtain⟨c1,c2,c3,c4⟩:=csE h hE hT hk hc h1 h2;have fx:=zFu h hE hT (k:=k+1) (by omega) c1 (xF (p:=m.Prime) (D:=D) (by omega));have hcV:=zTb h hE hT hk h1 h2;have eB:=zFp h hE hT (show k<j by omega) h2;have pb:V (suf x (j+1)) (zeros (x.zA.length-(j+1))):=by have:=wJ (h.okAt (k:=j+1) (by omega));rwa [yI]at this
 obtain⟨u1,u2,u3⟩:=zNM h hE hT hk hc h1 h2 (b:=at0 x.zA j-1) (by omega) (by omega) pb;rw[zDs,J9,show(at0 x.zA j-1).toNat=xZ x j-1 from by show _=(at0 x.zA j).toNat-1;omega]at u2 u3;have gB:=uS h hE hT (k:=k+1) (by omega);have G:=(zDd _ gB hc).toMon;have v1:=zE7 h hE hT hk hc pm.2 (z:=[]);rw[pm.1,zIz h hE hT _ (k+1) (by omega:k+1+(x.zA.length-(k+1))=x.zA.length) hc _ cj,←pm.1]at v1;have hr:∀a∈J1 (xZ x j-1) j,k+1≤a∧a<x.zA.length:=fun a ha=>by have:=Uv ha;omega
 have v2:=zE7 h hE hT hk hc hr (z:=nw 0 (lcj x k j));have dJ:∀q(e:Vec),(J1 q j).foldl (fun acc j=>mul (suf (exx D x m T) (k+1)) acc ((lvl (exx D x m T) k).cs.getD (j-(k+1)) [])) e=iter q (fun v=>mul (suf (exx D x m T) (k+1)) v ((lvl (exx D x m T) k).cs.getD (j-(k+1)) [])) e:=by
  intro q
  induction q with
  |zero=>intro e;rfl
  |succ q ih=>intro e;rw[Jv,Hv,ih];rfl
 have hpq:sig (suf (exx D x m T) (k+1)) (lvl (exx D x m T) k) (fo (exx D x m T) (k+1) (zeros ((exx D x m T).zA.length-(k+1))) (J1 (xZ x j-1) j))=pw (mul (suf (exx D x m T) (k+1))) (zeros (suf (exx D x m T) (k+1)).length) ((lvl (exx D x m T) k).cs.getD (j-(k+1)) []) (xZ x j-1):=by rw[u3,zFv h hE hT hk u1,u2,dJ,yI];rfl
 have dS:V (suf (exx D x m T) (k+1)) (pw (mul (suf (exx D x m T) (k+1))) (zeros (suf (exx D x m T) (k+1)).length) ((lvl (exx D x m T) k).cs.getD (j-(k+1)) []) (xZ x j-1)):=tM G hcV _;rw[hpq,zI0 h hE hT hk hc (by omega) _ _ c4,zI1 h hE hT hk hc c4 dS,c3]at v2;have e1:adK m.Prime D (x.zA.length-(k+1)) (sig (suf (exx D x m T) (k+1)) (lvl (exx D x m T) k) ((x.zJ.getD j []).drop (k+1)++zeros D)) (xL m.Prime D (T.getD j []) (wM m.Prime D m.zE [k] (idM D)))=sig (suf (exx D x m T) (k+1)) (lvl (exx D x m T) k) (((exx D x m T).zJ.getD j []).drop (k+1)):=by rw[zK6 h hE hT hk hk,zIo h hE hT (by omega) h2,←zIv h hE hT hk pd bM,zAb h hE hT (by omega) cj,wV bM]
 have e2:adK m.Prime D (x.zA.length-(k+1)) (mul (suf (exx D x m T) (k+1)) (pw (mul (suf (exx D x m T) (k+1))) (zeros (suf (exx D x m T) (k+1)).length) ((lvl (exx D x m T) k).cs.getD (j-(k+1)) []) (xZ x j-1)) ((lcj x k j).drop (k+1)++zeros D)) (xL m.Prime D (T.getD (base x.zA.length k+(j-(k+1))) []) (wM m.Prime D m.zE [] (idM D)))=pw (mul (suf (exx D x m T) (k+1))) (zeros (suf (exx D x m T) (k+1)).length) ((lvl (exx D x m T) k).cs.getD (j-(k+1)) []) (at0 (exx D x m T).zA j).toNat:=by
  rw[show wM m.Prime D m.zE [] (idM D)=idM D from rfl,qK eB,←zMf h hE hT hk hc fx eB dS,←c2,sG h hE hT h2,show(at0 x.zA j).toNat=(xZ x j-1)+1 from by show _=(at0 x.zA j).toNat-1+1;omega]
  conv=>rhs;rw[pw,vO]
  rfl
 have bY:V (suf (exx D x m T) (k+1)) (((exx D x m T).zJ.getD j []).drop (k+1)):=by rw[zIo h hE hT (by omega) h2];exact zFu h hE hT (by omega) cj bM
 obtain⟨hy,this⟩:=zGW h hE hT hk hc k1 k2 (r1:=j) (r2:=base x.zA.length k+(j-(k+1))) (s1:=[k]) (s2:=[]) (zCA h hE hT hk pd) (yY gB dS fx) v1 v2 (by rw[e1,e2,zE4 h hE hT hk bY,zIs h hE hT hk (by omega) h2,zYe h hE hT (by omega) hcV,zJ7 h hE hT hk h1 h2,sG h hE hT h2];exact(hL.c1 j h1 h2).symm)
 rw[e1,e2]at this;refine⟨hy,?_⟩;rw[this];exact eq_comm
theorem zTf(hL:LC x k){i j:Nat}(h1:k+1≤i)(gV:i<j)(h2:j<x.zA.length){t1 t2:List (Nat×List Nat)}{y1 y2:Vec}(k1:sD x k (i::(nw 0 (lcj x i j)++[k])) t1 y1)(k2:sD x k (j::k::nw 0 (lcj x k i)) t2 y2):
  y1=y2∧(tv m.Prime D m T ((base x.zA.length i+(j-(i+1)),[k])::t1)=tv m.Prime D m T ((base x.zA.length k+(i-(k+1)),[])::t2)↔c2E (exx D x m T) k i j):=by
 have hp:=hE.m.p.pos;have ho:=(h.os.2 k hk).pos;have hi:=(h.os.2 i (by omega)).pos;have mC:=kH h gV h2;have hce:=zTd mC (show k≤i by omega);have uw:V (suf x (k+1)) ((lcj x i j).drop (k+1)):=zB7 hce hk;have ia:V (suf x (i+1)) ((lcj x i j).drop (i+1)):=zB7 mC (by omega);have hn:=zBv h hce hk;have hni:=zBv h mC (by omega);have bN:=zFp h hE hT gV h2;have aX:=zFu h hE hT (k:=k+1) (by omega) uw (xF (p:=m.Prime) (D:=D) (by omega));obtain⟨c1,c2,c3,c4⟩:=csE h hE hT hk hc h1 (show i<x.zA.length by omega);have fx:=zFu h hE hT (k:=k+1) (by omega) c1 (xF (p:=m.Prime) (D:=D) (by omega));have fH:=zTb h hE hT hk h1 (show i<x.zA.length by omega);have pB:=zTb h hE hT hk (show k+1≤j by omega) h2;have eB:=zFp h hE hT (show k<i by omega) (show i<x.zA.length by omega);have gB:=uS h hE hT (k:=k+1) (by omega);obtain⟨u1,u2,u3⟩:=zNM h hE hT hk hc h1 (show i<x.zA.length by omega) (b:=1) (by omega) (by omega) ia;rw[←hni.1,show J1 (1:Int).toNat i++nw 0 (lcj x i j)=i::nw 0 (lcj x i j)from rfl]at u2 u3;have hr:∀a∈i::nw 0 (lcj x i j),k+1≤a∧a<x.zA.length:=fun a ha=>by
  simp only[Jp]at ha;rcases ha with rfl|ha
  ·omega
  ·exact hn.2 a ha
 have v1:=zE7 h hE hT hk hc hr (z:=[]);have es:sig (suf (exx D x m T) (k+1)) (lvl (exx D x m T) k) (fo (exx D x m T) (k+1) (zeros ((exx D x m T).zA.length-(k+1))) (i::nw 0 (lcj x i j)))=mul (suf (exx D x m T) (k+1)) ((lvl (exx D x m T) k).cs.getD (i-(k+1)) []) (sig (suf (exx D x m T) (k+1)) (lvl (exx D x m T) k) ((lcj x i j).drop (k+1)++zeros D)):=by rw[u3,zFv h hE hT hk u1,u2,Hv,zP6 h hE hT hk hc fH,zFv h hE hT hk uw,←hn.1];have:=zMi h hE hT hk hc hn.2 fH (zNJ h hE hT (k:=k+1) (by omega));rw[zZE h hE hT (by omega) fH]at this;exact this
 rw[es]at v1;have v2:=zE7 h hE hT hk hc (v:=[j]) (fun a ha=>by simp only[List.mem_singleton]at ha;omega) (z:=nw 0 (lcj x k i));obtain⟨g1,g2⟩:=zP7 h hE hT hk hc (show k+1≤j by omega) h2;rw[g1,g2,zI0 h hE hT hk hc (by omega) _ _ c4,zI1 h hE hT hk hc c4 pB,c3]at v2;have cm:=zCA h hE hT hk aX;have mH:((((exx D x m T).zB.getD i []).getD (j-(i+1)) []).drop (k+1))=adK m.Prime D (x.zA.length-(k+1)) ((lcj x i j).drop (k+1)++zeros D) (T.getD (base x.zA.length i+(j-(i+1))) []):=by rw[zKy h hE hT (by omega) gV h2,zAb h hE hT (by omega) uw,wV bN]
 have e1:adK m.Prime D (x.zA.length-(k+1)) (mul (suf (exx D x m T) (k+1)) ((lvl (exx D x m T) k).cs.getD (i-(k+1)) []) (sig (suf (exx D x m T) (k+1)) (lvl (exx D x m T) k) ((lcj x i j).drop (k+1)++zeros D))) (xL m.Prime D (T.getD (base x.zA.length i+(j-(i+1))) []) (wM m.Prime D m.zE [k] (idM D)))=mul (suf (exx D x m T) (k+1)) ((lvl (exx D x m T) k).cs.getD (i-(k+1)) []) (sig (suf (exx D x m T) (k+1)) (lvl (exx D x m T) k) ((((exx D x m T).zB.getD i []).getD (j-(i+1)) []).drop (k+1))):=by rw[zK6 h hE hT hk hk,←zMf h hE hT hk hc cm (wU (by omega)) fH,←zIv h hE hT hk aX bN,←mH]
 have e2:adK m.Prime D (x.zA.length-(k+1)) (mul (suf (exx D x m T) (k+1)) ((lvl (exx D x m T) k).cs.getD (j-(k+1)) []) ((lcj x k i).drop (k+1)++zeros D)) (xL m.Prime D (T.getD (base x.zA.length k+(i-(k+1))) []) (wM m.Prime D m.zE [] (idM D)))=mul (suf (exx D x m T) (k+1)) ((lvl (exx D x m T) k).cs.getD (j-(k+1)) []) ((lvl (exx D x m T) k).cs.getD (i-(k+1)) []):=by rw[show wM m.Prime D m.zE [] (idM D)=idM D from rfl,qK eB,←zMf h hE hT hk hc fx eB pB,←c2]
 have am:V (suf (exx D x m T) (k+1)) ((((exx D x m T).zB.getD i []).getD (j-(i+1)) []).drop (k+1)):=by rw[mH];exact zZF h hE hT (by omega) aX
 obtain⟨hy,this⟩:=zGW h hE hT hk hc k1 k2 (r1:=base x.zA.length i+(j-(i+1))) (r2:=base x.zA.length k+(i-(k+1))) (s1:=[k]) (s2:=[]) (yY gB fH cm) (yY gB pB fx) v1 v2 (by rw[e1,e2,zC9 h hE hT (by omega) fH (zCA h hE hT hk am),zC9 h hE hT (by omega) pB fH,zE4 h hE hT hk am,zJ7 h hE hT hk h1 (by omega),zJ7 h hE hT hk (by omega) h2,zSK h hE hT hk h1 gV h2];exact(hL.c2 i h1 (by omega) j (by omega) h2).symm)
 rw[e1,e2]at this;refine⟨hy,?_⟩;rw[this];exact eq_comm
end
end Go.Pl

namespace Go.Pl
open Go Go.Ab Go.Wk Go.Pc
section
variable {D:Nat}{x:SPr}{m:zC}{T:Mx} (h:Pres x) (hE:ExB x.zA.length D x m T) (hT:∀i,i<T.length→Row m.Prime D (T.getD i []))
 include h hE hT
variable {k:Nat} (hk:k<x.zA.length) (hc:wH (suf (exx D x m T) (k+1)))
 include hk hc
 omit hc in
theorem zTg:∀(q:Nat){e:Vec},V (suf (exx D x m T) (k+1)) e→V (suf (exx D x m T) (k+1)) (iter q (sig (suf (exx D x m T) (k+1)) (lvl (exx D x m T) k)) e)
  |0,_,he=>he
  |q+1,_,he=>zTg q (zCA h hE hT hk he)
 omit hc in
theorem zYl:∀(q:Nat){e d:Vec},V (suf (exx D x m T) (k+1)) e→Row m.Prime D d→iter q (sig (suf (exx D x m T) (k+1)) (lvl (exx D x m T) k)) (adK m.Prime D (x.zA.length-(k+1)) e d)=adK m.Prime D (x.zA.length-(k+1)) (iter q (sig (suf (exx D x m T) (k+1)) (lvl (exx D x m T) k)) e) (xL m.Prime D d (wM m.Prime D m.zE (J1 q k) (idM D)))
  |0,e,d,_,hd=>by show adK _ _ _ e d=adK _ _ _ e (xL m.Prime D d (idM D));rw[qK hd]
  |q+1,e,d,he,hd=>by have hp:=hE.m.p.pos;show iter q _ (sig _ _ (adK _ _ _ e d))=adK _ _ _ (iter q _ (sig _ _ e)) _;rw[zIv h hE hT hk he hd,zYl q (zCA h hE hT hk he) (wU (by omega)),Jv,show k::J1 q k=[k]++J1 q k from rfl,zFs (by omega),zK6 h hE hT hk hk]
theorem zTh:∀(q:Nat){c:Int}{e:Vec},0≤c→c+(q:Int)<at0 x.zA k→V (suf (exx D x m T) (k+1)) e→fo (exx D x m T) k (c::e) (J1 q k)=(c+(q:Int))::iter q (sig (suf (exx D x m T) (k+1)) (lvl (exx D x m T) k)) e
 |0,c,e,_,_,_=>by show c::e=(c+((0:Nat):Int))::e;simp
 |q+1,c,e,h0,h1,he=>by
  rw[Jv,sH,zG1 h hE hT hk hc he,if_neg (by omega),zTh q (by omega) (by omega) (zCA h hE hT hk he)]
  grind[iter]
theorem zTi(hL:LC x k){j:Nat}(h1:k+1≤j)(h2:j<x.zA.length){t1 t2:List (Nat×List Nat)}{y1 y2:Vec}(k1:sD x k (k::(nw 0 (lcj x k j)++J1 (xZ x k-1) k)) t1 y1)(k2:sD x k (j::nw 0 (x.zJ.getD k [])) t2 y2):
  y1=y2∧(tv m.Prime D m T ((base x.zA.length k+(j-(k+1)),J1 (xZ x k-1) k)::t1)=tv m.Prime D m T ((k,[])::t2)↔c4E (exx D x m T) k j):=by
 have hp:=hE.m.p.pos;have ho:=(h.os.2 k hk).pos;have hon:(xZ x k:Int)=at0 x.zA k:=by grind
 obtain⟨w1,w2,w3,w4⟩:=wE h hE hT hk hc;have pd:=zFu h hE hT (k:=k+1) (by omega) w1 (xF (p:=m.Prime) (D:=D) (by omega));have ph:=zVZ h hE hT hk;have eB:=zDv h hE hT hk;obtain⟨c1,c2,c3,c4⟩:=csE h hE hT hk hc h1 h2;have fx:=zFu h hE hT (k:=k+1) (by omega) c1 (xF (p:=m.Prime) (D:=D) (by omega));have bM:=zFp h hE hT (show k<j by omega) h2;have gB:=uS h hE hT (k:=k+1) (by omega);have hg:=zE6 h hE hT h1 h2;obtain⟨g1,g2⟩:=zP7 h hE hT hk hc h1 h2;have hz:fo (exx D x m T) (k+1) (zeros ((exx D x m T).zA.length-(k+1))) []=zeros ((exx D x m T).zA.length-(k+1)):=rfl;have hs:sig (suf (exx D x m T) (k+1)) (lvl (exx D x m T) k) (zeros ((exx D x m T).zA.length-(k+1)))=zeros ((exx D x m T).zA.length-(k+1)):=by grind[sig,sQ,yI]
 have hl:=xU h hE hT;have v1:=zE7 h hE hT hk hc (v:=[]) (by simp) (z:=nw 0 (lcj x k j)++J1 (xZ x k-1) k);rw[hz,hs]at v1;have v0:=v1.trans (zDx (e:=exx D x m T) (k:=k) (u:=(1:Int)::zeros ((exx D x m T).zA.length-(k+1))) (v:=nw 0 (lcj x k j)) (w:=J1 (xZ x k-1) k));rw[zI0 h hE hT hk hc (by omega) _ _ c4,c3]at v0;have ez:=zTg h hE hT hk (xZ x k-2) fx;have v1':fo (exx D x m T) k (zeros ((exx D x m T).zA.length-k)) (k::(nw 0 (lcj x k j)++J1 (xZ x k-1) k))=0::mul (suf (exx D x m T) (k+1)) (lvl (exx D x m T) k).w (iter (xZ x k-1) (sig (suf (exx D x m T) (k+1)) (lvl (exx D x m T) k)) ((lcj x k j).drop (k+1)++zeros D)):=by
  refine v0.trans ?_;rw[show xZ x k-1=(xZ x k-2)+1 from by omega,Lv,zDx,zTh h hE hT hk hc (xZ x k-2) (by omega) (by omega) fx];show mul _ _ _=_;rw[zG1 h hE hT hk hc ez,if_pos (by omega),vO]
  grind
 have hr:∀a∈j::nw 0 (x.zJ.getD k []),k+1≤a∧a<x.zA.length:=by grind
 have v2:fo (exx D x m T) k (zeros ((exx D x m T).zA.length-k)) (j::nw 0 (x.zJ.getD k []))=0::mul (suf (exx D x m T) (k+1)) (xD ((exx D x m T).zA.length-(k+1)) (j-(k+1))) ((x.zJ.getD k []).drop (k+1)++zeros D):=by rw[show zeros ((exx D x m T).zA.length-k)=0::zeros ((exx D x m T).zA.length-(k+1))from by rw[show(exx D x m T).zA.length-k=(exx D x m T).zA.length-(k+1)+1 from by omega];rfl,zI0 h hE hT hk hc (by omega) _ _ hr,sH,zP6 h hE hT hk hc hg,zI1 h hE hT hk hc w4 hg,w3]
 have e1:adK m.Prime D (x.zA.length-(k+1)) (mul (suf (exx D x m T) (k+1)) (lvl (exx D x m T) k).w (iter (xZ x k-1) (sig (suf (exx D x m T) (k+1)) (lvl (exx D x m T) k)) ((lcj x k j).drop (k+1)++zeros D))) (xL m.Prime D (T.getD (base x.zA.length k+(j-(k+1))) []) (wM m.Prime D m.zE (J1 (xZ x k-1) k) (idM D)))=mul (suf (exx D x m T) (k+1)) (lvl (exx D x m T) k).w (iter (lvl (exx D x m T) k).o.toNat (sig (suf (exx D x m T) (k+1)) (lvl (exx D x m T) k)) (xD ((exx D x m T).zA.length-(k+1)) (j-(k+1)))):=by rw[←zMf h hE hT hk hc (zTg h hE hT hk _ fx) (wU (by omega)) ph,←zYl h hE hT hk _ fx bM,←c2,←g2,zFn h hE hT hk,show(at0 x.zA k).toNat=(xZ x k-1)+1 from by omega];rfl
 have e2:adK m.Prime D (x.zA.length-(k+1)) (mul (suf (exx D x m T) (k+1)) (xD ((exx D x m T).zA.length-(k+1)) (j-(k+1))) ((x.zJ.getD k []).drop (k+1)++zeros D)) (xL m.Prime D (T.getD k []) (wM m.Prime D m.zE [] (idM D)))=mul (suf (exx D x m T) (k+1)) (xD ((exx D x m T).zA.length-(k+1)) (j-(k+1))) (lvl (exx D x m T) k).w:=by rw[show wM m.Prime D m.zE [] (idM D)=idM D from rfl,qK eB,←zMf h hE hT hk hc pd eB hg,←w2]
 have dg:(lvl (exx D x m T) k).w.take (x.zA.length-(k+1))=(lvl x k).w:=zIs h hE hT hk (Jf k) hk;have eI:(xD (x.zA.length-(k+1)) (j-(k+1))).length=x.zA.length-(k+1):=by simp[xD,zeros]
 obtain⟨hy,this⟩:=zGW h hE hT hk hc k1 k2 (r1:=base x.zA.length k+(j-(k+1))) (r2:=k) (s1:=J1 (xZ x k-1) k) (s2:=[]) (yY gB ph (zTg h hE hT hk _ fx)) (yY gB hg pd) v1' v2 (by rw[e1,e2,zC9 h hE hT (by omega) ph (zTg h hE hT hk _ hg),zC9 h hE hT (by omega) hg ph,zK1 h hE hT hk _ hg,dg,zSL h hE hT hk h1 h2,Jq eI,zFn h hE hT hk];exact hL.c4 j h1 h2)
 rw[e1,e2]at this;exact⟨hy,this⟩
end
structure zWb (x:SPr) (k:Nat) (r1:Nat) (s1 w1:List Nat) (r2:Nat) (s2 w2:List Nat) (t1 t2:List (Nat×List Nat)):Prop where
 a:∃u1 y1,t1=(r1,s1)::u1∧sD x k w1 u1 y1
 b:∃u2 y2,t2=(r2,s2)::u2∧sD x k w2 u2 y2
end Go.Pl

namespace Go.Pl
open Go Go.Ab Go.Wk Go.Pc
section
variable {D:Nat}{x:SPr}{m:zC}{T:Mx} (h:Pres x) (hE:ExB x.zA.length D x m T) (hT:∀i,i<T.length→Row m.Prime D (T.getD i []))
 include h hE hT
theorem zQ6{k:Nat}(hk:k<x.zA.length)(hL:LC x k)(hc:wH (suf (exx D x m T) (k+1))):LCn x (exx D x m T) k↔
  (∀j,k<j→j<x.zA.length→ ∀t1 t2,zWb x k j [k] (nw 0 (x.zJ.getD j [])++[k]) (base x.zA.length k+(j-(k+1))) [] (J1 (xZ x j-1) j++k::nw 0 (lcj x k j)) t1 t2→tv m.Prime D m T t1=tv m.Prime D m T t2)∧
  (∀i j,k<i→i<j→j<x.zA.length→ ∀t1 t2,zWb x k (base x.zA.length i+(j-(i+1))) [k] (i::(nw 0 (lcj x i j)++[k])) (base x.zA.length k+(i-(k+1))) [] (j::k::nw 0 (lcj x k i)) t1 t2→tv m.Prime D m T t1=tv m.Prime D m T t2)∧
  (∀t1 t2,zWb x k k [k] (nw 0 (x.zJ.getD k [])++[k]) k [] (k::nw 0 (x.zJ.getD k [])) t1 t2→tv m.Prime D m T t1=tv m.Prime D m T t2)∧
  (∀j,k<j→j<x.zA.length→ ∀t1 t2,zWb x k (base x.zA.length k+(j-(k+1))) (J1 (xZ x k-1) k) (k::(nw 0 (lcj x k j)++J1 (xZ x k-1) k)) k [] (j::nw 0 (x.zJ.getD k [])) t1 t2→tv m.Prime D m T t1=tv m.Prime D m T t2):=by
 have hC:=fun(w:List Nat)(hw:∀a∈w,k≤a∧a<x.zA.length)=>yBW h (x.zA.length-k) k (by omega) w hw
 have mH:∀i j,i<j→j<x.zA.length→ ∀a∈nw 0 (lcj x i j),i+1≤a∧a<x.zA.length:=fun i j hi hj=>(zBv h (kH h hi hj) (by omega)).2
 have bY:∀i,i<x.zA.length→ ∀a∈nw 0 (x.zJ.getD i []),i+1≤a∧a<x.zA.length:=fun i hi=>(zBv h (zFt h hi) hi).2
 constructor
 ·intro g
  refine⟨?_,?_,?_,?_⟩
  ·rintro j h1 h2 t1 t2 ⟨⟨u1,y1,rfl,k1⟩,⟨u2,y2,rfl,k2⟩⟩
   exact(zTe h hE hT hk hc hL (by omega) h2 k1 k2).2.2 (g.c1 j (by omega) h2)
  ·rintro i j h1 gV h2 t1 t2 ⟨⟨u1,y1,rfl,k1⟩,⟨u2,y2,rfl,k2⟩⟩
   exact(zTf h hE hT hk hc hL (by omega) gV h2 k1 k2).2.2 (g.c2 i (by omega) (by omega) j (by omega) h2)
  ·rintro t1 t2 ⟨⟨u1,y1,rfl,k1⟩,⟨u2,y2,rfl,k2⟩⟩
   exact(zTc h hE hT hk hc hL k1 k2).2.2 g.c3
  ·rintro j h1 h2 t1 t2 ⟨⟨u1,y1,rfl,k1⟩,⟨u2,y2,rfl,k2⟩⟩
   exact(zTi h hE hT hk hc hL (by omega) h2 k1 k2).2.2 (g.c4 j (by omega) h2)
 ·rintro⟨g1,g2,g3,g4⟩
  refine⟨fun j h1 h2=>?_,fun i h1 hi j gV h2=>?_,?_,fun j h1 h2=>?_⟩
  ·obtain⟨u1,y1,k1⟩:=hC (nw 0 (x.zJ.getD j [])++[k]) (fun a ha=>by
    simp only[Jw,List.mem_singleton]at ha;rcases ha with ha|rfl
    ·grind
    ·omega)
   obtain⟨u2,y2,k2⟩:=hC (J1 (xZ x j-1) j++k::nw 0 (lcj x k j)) (fun a ha=>by
    simp only[Jw,Jp]at ha;rcases ha with ha|rfl|ha
    ·grind
    ·omega
    grind)
   exact(zTe h hE hT hk hc hL h1 h2 k1 k2).2.1 (g1 j (by omega) h2 _ _ ⟨⟨u1,y1,rfl,k1⟩,⟨u2,y2,rfl,k2⟩⟩)
  ·obtain⟨u1,y1,k1⟩:=hC (i::(nw 0 (lcj x i j)++[k])) (fun a ha=>by
    simp only[Jw,Jp,List.not_mem_nil,or_false]at ha;rcases ha with rfl|ha|rfl
    ·omega
    ·grind
    ·omega)
   obtain⟨u2,y2,k2⟩:=hC (j::k::nw 0 (lcj x k i)) (fun a ha=>by
    simp only[Jp]at ha;rcases ha with rfl|rfl|ha
    ·omega
    ·omega
    grind)
   exact(zTf h hE hT hk hc hL h1 (by omega) h2 k1 k2).2.1 (g2 i j (by omega) (by omega) h2 _ _ ⟨⟨u1,y1,rfl,k1⟩,⟨u2,y2,rfl,k2⟩⟩)
  ·obtain⟨u1,y1,k1⟩:=hC (nw 0 (x.zJ.getD k [])++[k]) (fun a ha=>by
    simp only[Jw,List.mem_singleton]at ha;rcases ha with ha|rfl
    ·grind
    ·omega)
   obtain⟨u2,y2,k2⟩:=hC (k::nw 0 (x.zJ.getD k [])) (fun a ha=>by
    simp only[Jp]at ha;rcases ha with rfl|ha
    ·omega
    grind)
   exact(zTc h hE hT hk hc hL k1 k2).2.1 (g3 _ _ ⟨⟨u1,y1,rfl,k1⟩,⟨u2,y2,rfl,k2⟩⟩)
  ·obtain⟨u1,y1,k1⟩:=hC (k::(nw 0 (lcj x k j)++J1 (xZ x k-1) k)) (fun a ha=>by
    simp only[Jw,Jp]at ha;rcases ha with rfl|ha|ha
    ·omega
    ·grind
    grind)
   obtain⟨u2,y2,k2⟩:=hC (j::nw 0 (x.zJ.getD k [])) (fun a ha=>by
    simp only[Jp]at ha;rcases ha with rfl|ha
    ·omega
    grind)
   exact(zTi h hE hT hk hc hL h1 h2 k1 k2).2.1 (g4 j (by omega) h2 _ _ ⟨⟨u1,y1,rfl,k1⟩,⟨u2,y2,rfl,k2⟩⟩)
end
end Go.Pl

namespace Go.Pl
open Go Go.Ab Go.Wk Go.Pc
end Go.Pl

namespace Go.Pl
open Go Go.Ab Go.Wk Go.Pc
end Go.Pl

namespace Go.Pl
open Go Go.Ab Go.Wk Go.Pc
end Go.Pl

namespace Go.Pl
open Go Go.Ab Go.Wk Go.Pc
end Go.Pl

namespace Go.Pl
open Go Go.Ab Go.Wk Go.Pc
end Go.Pl

namespace Go.Pl
open Go Go.Ab Go.Wk Go.Pc
end Go.Pl

namespace Go.Pl
open Go Go.Ab Go.Wk Go.Pc
theorem zJ8{α:Type}{F:α→Vec}{D:Nat}(hF:∀a,(F a).length=D):∀L:List α,((L.map F).flatten).length=L.length*D
 | []=>by simp
 |a::L=>by rw[Jl,U8,Ja,hF,zJ8 hF L,K2,L5];omega
theorem zMj{α:Type}{F:α→Vec}{D:Nat}(hF:∀a,(F a).length=D):∀(L:List α)(i j:Nat)(hi:i<L.length),j<D→at0 ((L.map F).flatten) (i*D+j)=at0 (F L[i]) j
 | [],i,j,hi,_=>by simp at hi
 |a::L,i,j,hi,hj=>by
  have hl:=hF a;rw[Jl,U8];cases i with
  |zero=>
   grind
  |succ i=>
   have ih:=zMj hF L i j (by grind) hj
   grind
end Go.Pl

namespace Go.Pl
open Go Go.Ab Go.Wk Go.Pc
end Go.Pl

namespace Go.Pl
open Go Go.Ab Go.Wk Go.Pc
end Go.Pl

namespace Go.Pl
open Go Go.Ab Go.Wk Go.Pc
end Go.Pl

namespace Go.Pl
open Go Go.Ab Go.Wk Go.Pc
end Go.Pl

namespace Go.Pl
open Go Go.Ab Go.Wk Go.Pc
end Go.Pl

namespace Go.Pl
open Go Go.Ab Go.Wk Go.Pc
end Go.Pl

namespace Go.Pl
open Go Go.Ab Go.Wk Go.Pc
end Go.Pl

namespace Go.Pl
open Go Go.Ab Go.Wk Go.Pc
end Go.Pl

namespace Go.Pl
open Go Go.Ab Go.Wk Go.Pc
end Go.Pl

namespace Go.Pl
open Go Go.Ab Go.Wk Go.Pc
end Go.Pl

namespace Go.Pl
open Go Go.Ab Go.Wk Go.Pc
end Go.Pl

namespace Go.Pl
open Go Go.Ab Go.Wk Go.Pc
end Go.Pl

namespace Go.Pl
open Go Go.Ab Go.Wk Go.Pc
end Go.Pl

namespace Go.Pl
open Go Go.Ab Go.Wk Go.Pc
end Go.Pl

namespace Go.Pl
open Go Go.Ab Go.Wk Go.Pc
end Go.Pl

namespace Go.Pl
open Go Go.Ab Go.Wk Go.Pc
end Go.Pl

namespace Go.Pl
open Go Go.Ab Go.Wk Go.Pc
end Go.Pl

namespace Go.Pl
open Go Go.Ab Go.Wk Go.Pc
theorem zTj{n D:Nat}{v:List Int}(hD:1≤D)(hl:v.length=n*D):(sT n D v).flatten=v:=by
 have hF:∀i:Nat,(mkv D fun j=>at0 v (i*D+j)).length=D:=fun i=>yE _ _
 have h1:(sT n D v).flatten.length=n*D:=by have:=zJ8 (F:=fun i=>mkv D fun j=>at0 v (i*D+j)) hF (Ji n);rw[Hj]at this;exact this
 refine(wT h1).trans (((yD fun k hk=>?_)).trans (wT hl).symm);have hi:k/D<n:=(Nat.div_lt_iff_lt_mul (by omega)).2 hk;have hm:k%D<D:=Nat.mod_lt _ (by omega);have e:=zMj (F:=fun i=>mkv D fun j=>at0 v (i*D+j)) hF (Ji n) (k/D) (k%D) (by grind) hm;rw[show k/D*D+k%D=k from by grind[Nat.div_add_mod]]at e;rw[List.getElem_range,zS hm,show k/D*D+k%D=k from by grind[Nat.div_add_mod]]at e;exact e
end Go.Pl

namespace Go.Pl
open Go Go.Ab Go.Wk Go.Pc
end Go.Pl

namespace Go.Pl
open Go Go.Ab Go.Wk Go.Pc
end Go.Pl

namespace Go.Pl
open Go Go.Ab Go.Wk Go.Pc
end Go.Pl

namespace Go.Pl
open Go Go.Ab Go.Wk Go.Pc
end Go.Pl

namespace Go.Pl
open Go Go.Ab Go.Wk Go.Pc
end Go.Pl

namespace Go.Pl
open Go Go.Ab Go.Wk Go.Pc
theorem zZG{n D kk i c:Nat}(hi:i<n)(hc:c<D):at0 ((uv n D kk).getD i []) c=if i*D+c=kk then 1 else 0:=by
 have:i*D+c<n*D:=by have:=zDK (D:=D) hi;omega
 grind[uv,sT,zS,tF]
end Go.Pl

namespace Go.Pl
open Go Go.Ab Go.Wk Go.Pc
end Go.Pl

namespace Go.Pl
open Go Go.Ab Go.Wk Go.Pc
end Go.Pl

namespace Go.Pl
open Go Go.Ab Go.Wk Go.Pc
end Go.Pl

namespace Go.Pl
open Go Go.Ab Go.Wk Go.Pc
end Go.Pl

namespace Go.Pl
open Go Go.Ab Go.Wk Go.Pc
end Go.Pl

namespace Go.Pl
open Go Go.Ab Go.Wk Go.Pc
end Go.Pl

namespace Go.Pl
open Go Go.Ab Go.Wk Go.Pc
end Go.Pl

namespace Go.Pl
open Go Go.Ab Go.Wk Go.Pc
end Go.Pl

namespace Go.Pl
open Go Go.Ab Go.Wk Go.Pc
end Go.Pl

namespace Go.Pl
open Go Go.Ab Go.Wk Go.Pc
end Go.Pl

namespace Go.Pl
open Go Go.Ab Go.Wk Go.Pc
end Go.Pl

namespace Go.Pl
open Go Go.Ab Go.Wk Go.Pc
end Go.Pl
