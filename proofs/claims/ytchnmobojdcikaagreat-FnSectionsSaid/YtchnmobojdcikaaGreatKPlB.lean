/- x -/
import Derived.Test.YtchnmobojdcikaaGreatKPlA
open List renaming replicate→J1,getD_eq_getElem?_getD→J3,length_append→J5,length_replicate→J6,getElem?_eq_getElem→J7,mem_cons→J9,append_nil→Jb,length_cons→Jc,getElem?_append_right→Je,mem_append→Jf,append_assoc→Jg,range→Jh,mem_map→Ji,replicate_append_replicate→Jl,take_left'→Jp,nil_append→Jq,take_of_length_le→Jr,length_map→Js,map_cons→Jt,replicate_succ→Ju,drop_left'→Jx,length_nil→K0,getElem?_append_left→K3,getElem?_map→K4,reverse_reverse→K5,mem_iff_getElem→K6,eq_nil_of_length_eq_zero→Kb,cons_append→Kd,getElem_mem→Ke,getElem?_replicate→Kg,ext_getElem?→Kl,take_zero→Km,drop_append_of_le_length→Ko,mem_range→Kq,length_drop→Kr,replicate_succ'→Kw,length_take→L4,take_succ_cons→L5,drop_replicate→L6,getElem?_eq_none→Ld,getElem?_drop→Lm,range_succ→Lo,map_append→Ls,replicate_zero→Lw,getD_cons_zero→H6,eq_of_mem_replicate→Hc,ext_getElem→Hj,foldl_cons→G1,foldl_append→G5,flatten_cons→G6,getElem?_take_of_lt→G8,drop_zero→G9,drop_of_length_le→Gi,map_nil→Gp,drop_eq_getElem_cons→Gs,reverse_cons→Gt,map_congr_left→U4,getElem?_replicate_of_lt→Ua,append_cancel_left_eq→Uf,map_map→Uu,flatten_append→Uz,range_succ_eq_map→Q7,not_mem_nil→Q8,set_append_right→Qh,mem_of_mem_head?→Qi,take→Qq,cons→Ja0,head?_cons→Jae,length→Jb0,flatMap_append→Jb1
open Int renaming toNat_natCast→J8,mul_emod→Jv,emod_emod→Jz,emod_eq_of_lt→K1,add_emod→K9,emod_lt_of_pos→Ki,emod_nonneg→Kv,zero_add→Lh,mul_one→Ln,mul_zero→Lt,add_zero→Lu,mul_le_mul_of_nonneg_left→Lz,natCast_add→H1,toNat_zero→G3,add_emod_right→Uc,sub_emod→Up,emod_emod_of_dvd→Q0,toNat_of_nonneg→Qb,zero_mul→Qt,add_emod_emod→Qu,one_mul→Ja3,dvd_refl→Jag
open Bool renaming not_true→Ja
open Nat renaming zero_add→Jd,le_refl→Jk,lt_or_ge→Jn,mul_le_mul_right→Jw,succ_mul→K7,mul_le_mul→Ka,zero_le→Kf,sub_self→Ku,add_sub_cancel_left→Lv,add_assoc→H3,div_add_mod→Gf,mod_lt→Gz,div_lt_iff_lt_mul→U9,zero_mul→Qm,sub_zero→Qn,lt_of_not_le→Qw,add_zero→Jad,lt_irrefl→Jay,eq_zero_or_pos→Jaz
open Option renaming some→Ll
open Option renaming some→dJ,none→dK
open Bool renaming true→dL,false→dM
namespace Go.Pl
open Go Go.Ab Go.Wk Go.Pc
theorem zPC{a b:List Int}(ha:a.length≤1000)(hb:b.length≤1000):f_N [a,b]=dJ (a++b):=by grind[zB7]
theorem zJG{v:Int}{k:Nat}(hk:k≤1000):∀d c:Nat,c≤k→(c=0→k=0)→k-c≤d→zH zCD (J1 c v++J1 (k-c) 0,(c:Int))=dJ (J1 k v):=by
 intro d
 induction d with
 |zero=>
  intro c h1 _ h3;obtain rfl:c=k:=by omega
  rw[yQ];unfold zCD;simp
 |succ d ih=>
  intro c h1 h2 h3
  by_cases hc:c=k
  ·grind
  ·have hl:(J1 c v++J1 (k-c) (0:Int)).length=k:=by simp;omega
   have s1:zQ (J1 c v++J1 (k-c) (0:Int)) (c:Int) (k:Int)=dJ (((J1 c v++J1 (k-c) (0:Int)).drop c).take (k-c)):=by
    unfold zQ
    simp_all
   have s2:zQ (J1 c v++J1 (k-c) (0:Int)) 0 (c:Int)=dJ (J1 c v):=by
    unfold zQ
    simp_all
   have e1:(J1 c v).take (k-c)=J1 (min (k-c) c) v:=by simp
   have e2:wC (J1 c v++J1 (k-c) (0:Int)) c (J1 (min (k-c) c) v)=J1 (c+min c (k-c)) v++J1 (k-(c+min c (k-c))) 0:=by
    unfold wC;rw[Jp (by simp),J6,Nat.min_comm (k-c) c,Jl,List.drop_append,J6,Gi (by rw[J6];omega),Jq,L6]
    congr 2;omega
   have hb:zCD (J1 c v++J1 (k-c) 0,(c:Int))=dJ (.inl (J1 (c+min c (k-c)) v++J1 (k-(c+min c (k-c))) 0,((c+min c (k-c):Nat):Int))):=by
    unfold zCD;simp only
    rw[hl,yI (by omega),zK,s1,bs,s2,bs,J6];simp only[J8];rw[e1,e2,←H1,zF (by omega) (by omega),bs]
   rw[yQ,hb];exact ih (c+min c (k-c)) (by omega) (by omega) (by omega)
theorem zNZ{v:Int}{k:Nat}(hk:k≤30):f_q [v] (k:Int)=dJ (J1 k v):=by
 have key:∀k:Nat,k<31→zU9 1 (IntKind.wrap .u64 (k:Int))=dJ (0,(k:Int))∧yG (IntKind.wrap .i64 (k:Int))=dJ k:=by decide+kernel
 obtain⟨k1,k2⟩:=key k (by omega);unfold f_q;rw[dO (by omega),zL,zMt k1,bs];simp only[k2,bs];rw[show decide ((0:Int)> 0)=dM from rfl,zL,dO (by omega),zL]
 by_cases h0:k=0
 ·subst h0
  have:=zJG (v:=v) (k:=0) (by omega) 0 0 (by omega) (by omega) (by omega);rw[show wC (J1 0 (0:Int)) 0 (([v]:List Int).take ((J1 0 (0:Int)).length-0))=J1 0 v++J1 (0-0) 0 from rfl,show((min ([v]:List Int).length ((J1 0 (0:Int)).length-0):Nat):Int)=((0:Nat):Int)from rfl,this,bs]
 ·have:=zJG (v:=v) (k:=k) (by omega) k 1 (by omega) (by omega) (by omega)
  have e1:wC (J1 k (0:Int)) 0 (([v]:List Int).take ((J1 k (0:Int)).length-0))=J1 1 v++J1 (k-1) 0:=by
   unfold wC
   grind
  grind
theorem zQQ{O:List Int}{N:Nat}(hO:O.length=N)(hN:N≤100):f_W O=dJ ⟨O,gl N (fun _=>J1 N 0),gl N (unC N)⟩:=by
 have gJ:∀i,i<N→zH (zRw O) ([],((i+1:Nat):Int))=dJ (unC N i):=fun i hi=>by
  have:=zM (body:=zRw O) (r:=unC N i) (fun j=>(gl j fun j=>uE N (i+1+j),((i+1+j:Nat):Int))) (N-1-i) (fun j hj=>by
   unfold zRw;simp only
   rw[hO,yI (by omega),zK,zAI (by omega) (by omega),bs,zP (by grind),bs,zF (by omega) (by omega),bs,cs,xV (F:=fun j=>uE N (i+1+j))];rfl) (by
   unfold zRw;simp only
   rw[hO,show i+1+(N-1-i)=N from by omega,vR,zL,unC])
  exact this
 have:=zM (body:=zRx O) (r:=(gl N (fun _=>J1 N 0),gl N (unC N))) (fun i=>(gl i (fun _=>J1 N (0:Int)),gl i (unC N),((i:Nat):Int))) N (fun i hi=>by
  unfold zRx;simp only
  rw[hO,yI hi,zK,yK (by omega),bs,zP (by grind),bs,zF (by omega) (by omega),bs,cs,gJ i hi,bs,zP (by rw[yN];simp;omega),bs,bs,xV (F:=unC N),xV (F:=fun _=>J1 N (0:Int))]) (by
  unfold zRx
  grind)
 unfold f_W;rw[tS (by omega),bs]
 grind
section
variable {n D:Nat}{x:SPr}{m:zC}{T:Mx} (h:zGa n D x m T)
 include h
def exG(n N:Nat)(x:SPr)(m:zC)(T:Mx)(i t q:Nat):List Int:=if q<t then exF n x m T i q else uE N (i+1+q)
def exE(n D:Nat)(x:SPr)(m:zC)(T:Mx)(i t k:Nat):Mx:=if k<i then exC n D x m T k else if k=i then gl (n+D-1-i) (exG n (n+D) x m T i t)else unC (n+D) k
theorem zOa{i t:Nat}:exE n D x m T i t i=gl (n+D-1-i) (exG n (n+D) x m T i t):=by have _:=h;rw[exE,if_neg (by omega),if_pos rfl]
theorem zPD{i t:Nat}:(gl (n+D) (exE n D x m T i t)).set i ((gl (n+D-1-i) (exG n (n+D) x m T i t)).set t (exF n x m T i t))=gl (n+D) (exE n D x m T i (t+1)):=by
 have _:=h;rw[zE5,zE5];refine kK fun k _=>?_
 by_cases hk:k=i
 ·subst hk
  rw[if_pos rfl,zOa h];refine kK fun q _=>?_
  simp only[exG]
  grind
 ·rw[if_neg hk,exE,exE,if_neg hk,if_neg hk]
theorem zIi{i k:Nat}:exE n D x m T i 0 k=if k<i then exC n D x m T k else unC (n+D) k:=by
 have _:=h;rw[exE]
 by_cases h1:k<i
 ·grind
 ·rw[if_neg h1,if_neg h1]
  by_cases h2:k=i
  ·subst h2
   rw[if_pos rfl];rfl
  grind
theorem zTf{i:Nat}(hi:i<n):gl (n+D) (exE n D x m T i (n+D-1-i))=gl (n+D) (exE n D x m T (i+1) 0):=by
 refine kK fun k _=>?_
 rw[zIi h,exE]
 by_cases h1:k<i
 ·grind
 ·rw[if_neg h1]
  by_cases h2:k=i
  ·subst h2
   rw[if_pos rfl,if_pos (by omega),exC,if_pos hi];exact kK fun q hq=>by rw[exG,if_pos hq]
  grind
theorem yCL{i:Nat}(hi:i<n){C:List Mx}{w:Int}:zH (zO1 T (C,w,(i:Int)) (x.zB.getD i [])) (gl (n+D) (exE n D x m T i 0),((base n i:Nat):Int),0)=dJ (gl (n+D) (exE n D x m T i (n-1-i)),((base n (i+1):Nat):Int)):=by
 have h6:=h.hn;have h3:=h.m.d3;have hc:=h.cl i hi;have hb:=qD n (by omega) i hi;have eC:=xW n (by omega);have:=zM (body:=zO1 T (C,w,(i:Int)) (x.zB.getD i [])) (r:=(gl (n+D) (exE n D x m T i (n-1-i)),((base n (i+1):Nat):Int))) (fun j=>(gl (n+D) (exE n D x m T i j),((base n i+j:Nat):Int),((j:Nat):Int))) (n-1-i) (fun j hj=>by
  have a1:=h.ce i j;have a2:=h.tl (base n i+j);have e:exF n x m T i j=(x.zB.getD i []).getD j []++T.getD (base n i+j) []:=if_pos hj;unfold zO1;simp only
  rw[hc,yI hj,zK,zT [] (by omega),bs,zAC (by omega),bs,zT [] (by rw[h.t];omega),bs,zPC (by omega) (by omega),bs,zOa h,zAC (by omega),bs,zF (by omega) (by omega),bs,zF (by omega) (by omega),bs,cs,cs,←e,J8,J8,zPD h];rfl) (by
  unfold zO1;simp only
  rw[hc,vR,zL,zFZ n (by omega) i hi])
 exact this
theorem yCM{i:Nat}(hi:i<n){C:List Mx}{w:Int}:zH (zO2 x (C,w,(i:Int)) (m.zG.getD i [])) (gl (n+D) (exE n D x m T i (n-1-i)),0)=dJ (gl (n+D) (exE n D x m T (i+1) 0)):=by
 have h6:=h.hn;have h3:=h.m.d3;have mW:=h.m.mat i hi;have:=zM (body:=zO2 x (C,w,(i:Int)) (m.zG.getD i [])) (r:=gl (n+D) (exE n D x m T (i+1) 0)) (fun j=>(gl (n+D) (exE n D x m T i (n-1-i+j)),((j:Nat):Int))) D (fun j hj=>by
  have e:exF n x m T i (n-1-i+j)=J1 n 0++(m.zG.getD i []).getD j []:=by rw[exF,if_neg (by omega),show n-1-i+j-(n-1-i)=j from by omega]
  have hr:=(mW.2 j hj).1;unfold zO2;simp only
  rw[mW.1,yI hj,zK,zT [] (by grind),bs,zAC (by omega),bs,h.o,zF (by omega) (by omega),bs,zF (by omega) (by omega),bs,zF (by omega) (by omega),bs,show(0:Int)=((0:Nat):Int)from rfl,zMv (by omega) (by omega) (by omega),bs,
   show(n:Int)-1-(i:Int)+(j:Int)=((n-1-i+j:Nat):Int)from by omega,zOa h,zAC (by omega),bs,zF (by omega) (by omega),bs,cs,Lw,Jb,←e,J8,J8,zPD h];rfl) (by
  unfold zO2;simp only
  rw[mW.1,vR,zL,show n-1-i+D=n+D-1-i from by omega,zTf h hi])
 exact this
theorem yCN:zH (zO3 x m T) (gl (n+D) (unC (n+D)),((n:Nat):Int),0)=dJ (gl (n+D) (exC n D x m T)):=by
 have h6:=h.hn;have h3:=h.m.d3;have eC:=xW n (by omega);have:=zM (body:=zO3 x m T) (r:=gl (n+D) (exC n D x m T)) (fun i=>(gl (n+D) (exE n D x m T i 0),((base n i:Nat):Int),((i:Nat):Int))) n (fun i hi=>by
  unfold zO3;simp only
  rw[h.o,yI hi,zK,zT [] (by rw[h.c];exact hi),bs,yCL h hi,bs,zT [] (by rw[h.m.len];exact hi),bs,yCM h hi,bs,zF (by omega) (by omega),bs,cs]) (by
  unfold zO3;simp only
  rw[h.o,vR,zL]
  congr 2
  refine kK fun k _=>?_
  rw[zIi h,exC]
  grind)
 have e:gl (n+D) (exE n D x m T 0 0)=gl (n+D) (unC (n+D)):=kK fun k _=>by rw[zIi h,if_neg (by omega)]
 grind
theorem yCO:zH (zO0 x T) (gl (n+D) (fun _=>J1 (n+D) 0),0,0)=dJ (gl (n+D) (exP n D x T),((n:Nat):Int)):=by
 have h6:=h.hn;have h3:=h.m.d3;have eC:=xW n (by omega);have:=zM (body:=zO0 x T) (r:=(gl (n+D) (exP n D x T),((n:Nat):Int))) (fun i=>(gl (n+D) (fun k=>if k<i then exP n D x T k else J1 (n+D) 0),((i:Nat):Int),((i:Nat):Int))) n (fun i hi=>by
  have a1:=h.pl i;have a2:=h.tl i;have e:exP n D x T i=x.zJ.getD i []++T.getD i []:=if_pos hi;unfold zO0;simp only
  rw[h.p,yI hi,zK,zT [] (by rw[h.p];exact hi),bs,zT [] (by rw[h.t];omega),bs,zPC (by omega) (by omega),bs,zAC (by omega),bs,zF (by omega) (by omega),bs,bs,cs,←e,J8,zE5]
  grind) (by
  unfold zO0;simp only
  rw[h.p,vR,zL]
  congr 3
  refine kK fun k _=>?_
  by_cases hk:k<n
  ·grind
  ·rw[if_neg hk,exP,if_neg hk])
 grind
theorem zWC{v:Int}:f_q [v] m.Dim=dJ (J1 D v):=by rw[h.m.d];exact zNZ (by have:=h.m.d3;omega)
theorem zFk:f_s x m T=dJ (ext n D x m T):=by
 have h6:=h.hn;have h3:=h.m.d3;unfold f_s;rw[tS (by rw[h.o];omega),bs,zWC h,bs,zP (by rw[h.o];simp;omega),bs,zQQ (N:=n+D) (by rw[J5,h.o];simp) (by omega),bs];simp only
 rw[yCO h,bs,yCN h,bs];rfl
end
end Go.Pl

namespace Go.Pl
open Go Go.Ab Go.Wk Go.Pc
theorem zJH{α:Type}{c:α→Nat}{b:Nat}:∀{xs:List α},(∀x∈xs,c x≤b)→sm c xs≤xs.length*b
 | [],_=>by simp[sm]
 |x::xs,h=>by
  have h1:=zJH (xs:=xs) fun y hy=>h y (by simp[hy])
  grind[sm,K7]
theorem zOb{xs:Mx}{b:Nat}(h:∀i,i<xs.length→(xs.getD i []).length≤b)(i:Nat):(xs.getD i []).length≤b:=by grind
theorem zC4{x:SPr}{n:Nat}(ho:x.zA.length=n)(hn:n≤6):zLj x=dJ ((base n n:Nat):Int):=by
 unfold zLj;rw[ho];have key:∀n:Nat,n<7→((rng ((n:Int)-1)).bind fun v1=>(rng ((n:Int)*v1)).bind fun v2=>(wS v2 2).bind fun v3=>(rng ((n:Int)+v3)).bind fun v4=>dJ v4)=dJ ((base n n:Nat):Int):=by decide+kernel
 grind
theorem zIj{x:SPr}{n:Nat}(ho:x.zA.length=n)(hn:n≤6):zUP x=dJ ((base n n:Nat):Int):=by
 unfold zUP;rw[ho];have key:∀n:Nat,n<7→((rng ((n:Int)+1)).bind fun v1=>(rng ((n:Int)*v1)).bind fun v2=>(wS v2 2).bind fun v3=>dJ v3)=dJ ((base n n:Nat):Int):=by decide+kernel
 grind
theorem zGa.ofX{x:SPr}{m:zC}{D:Nat}{T:Mx}(hx:sU x)(hm:yAj x.zA.length m D)(ht:T.length=base x.zA.length x.zA.length)(fe:∀i,(T.getD i []).length≤30):zGa x.zA.length D x m T:=by
 have h6:=hx.n6;refine⟨h6,rfl,hx.pl,hx.cl,fun i hi=>by have:=(hx.tl i hi).2.1;omega,zOb fun i hi=>?_,fun i=>?_,ht,fe,hm⟩
 ·have:=(hx.tl i (by rw[←hx.pl];exact hi)).1.1.1
  omega
 ·rcases Jn i x.zA.length with g|g
  ·refine zOb fun j hj=>?_
   have:=((hx.tl i g).2.2 j hj).1.1;omega
  ·have e:x.zB.getD i []=[]:=by rw[J3,Ld (by rw[hx.cl];exact g)];rfl
   grind
theorem zGa.of{x:SPr}{m:zC}{D:Nat}{T:Mx}(hx:sU x)(hm:MOk x.zA.length m D)(ht:T.length=base x.zA.length x.zA.length)(fe:∀i,(T.getD i []).length≤3):zGa x.zA.length D x m T:=.ofX hx hm.x ht (by grind)
end Go.Pl

namespace Go.Pl
open Go Go.Ab Go.Wk Go.Pc
end Go.Pl

namespace Go.Pl
open Go Go.Ab Go.Wk Go.Pc
theorem zGb{xs:Mx}(h:xs.length≤100000)(hl:∀i,i<xs.length→(xs.getD i []).length≤1000000):zLl xs=dJ xs:=by
 unfold zLl;rw[tI (body:=zJU xs) xs.length (fun i=>xs.getD i []) (fun i acc hi ha=>by
  unfold zJU;simp only
  rw[yI hi,zK,zT [] hi,bs,xX (hl i hi),bs,zP (by simp;omega),bs,zF (by omega) (by omega),bs,cs]) (fun acc=>by
  unfold zJU;simp),bs]
 congr 1
 exact(zSZ rfl).symm
end Go.Pl

namespace Go.Pl
open Go Go.Ab Go.Wk Go.Pc
end Go.Pl

namespace Go.Pl
open Go Go.Ab Go.Wk Go.Pc
end Go.Pl

namespace Go.Pl
open Go Go.Ab Go.Wk Go.Pc
section
variable {p:Int} (hp:1<p) {n:Nat}{R R':Mx}{pv pv':Nat→Nat} (h:Red p n R pv) (h':Red p n R' pv') (hs:∀i,i<R.length→Sp p n R' (R.getD i []))
 include hp h h' hs
theorem Red.lt_of{i i2 k k2:Nat}(hii:i<i2)(fx:i2<R.length)(hk:k<R'.length)(e:pv' k=pv i)(e2:pv' k2=pv i2):k<k2:=by
 have _:=hp;have _:=hs;have h1:=h.mono i i2 hii fx;refine Classical.byContradiction fun hn=>?_
 rcases Jn k2 k with g|g
 ·have:=h'.mono k2 k g hk;omega
 grind
theorem Red.low_in:∀i,i<R.length→ ∃k,k<R'.length∧pv' k=pv i∧i≤k:=by
 intro i
 induction i with
 |zero=>intro hi;obtain⟨k,hk,e⟩:=h.piv_in hp h' hs hi;grind
 |succ i ih=>
  intro hi;obtain⟨k,hk,e,hik⟩:=ih (by omega);obtain⟨k2,f9,e2⟩:=h.piv_in hp h' hs hi;have:=h.lt_of hp h' hs (by simp) hi hk e e2
  grind
theorem Red.le_of:R.length≤R'.length:=by
 rcases Jaz R.length with g|g
 ·omega
 ·obtain⟨k,hk,_,hik⟩:=h.low_in hp h' hs (R.length-1) (by omega)
  omega
end
end Go.Pl

namespace Go.Pl
open Go Go.Ab Go.Wk Go.Pc
end Go.Pl

namespace Go.Pl
open Go Go.Ab Go.Wk Go.Pc
theorem zK9{u v:List Int}{j:Nat}:at0 (u++v) j=if j<u.length then at0 u j else at0 v (j-u.length):=by grind
theorem zIk{v:List Int}{c j:Nat}:at0 (v.drop c) j=at0 v (c+j):=by simp
theorem zTg{v:List Int}{c j:Nat}(h:j<c):at0 (v.take c) j=at0 v j:=by grind
theorem zGS{f:Nat→Int}(t:Nat):∀d:Nat,S (t+d) f=S t f+S d (fun i=>f (t+i))
 |0=>by simp[S]
 |d+1=>by rw[←H3];simp only[S];rw[zGS t d];omega
theorem yAn{f:Nat→Int}{t n:Nat}(ht:t≤n)(h:∀i,i<t→f i=0):S n f=S (n-t) (fun i=>f (t+i)):=by
 have e:n=t+(n-t):=by omega
 conv=>lhs;rw[e,zGS,xL (g:=fun _=>0) h,qK]
 omega
theorem wA{F:Nat→List Int}{m i:Nat}(h:i<m):(gl m F).getD i []=F i:=by grind
def ur(N i:Nat):List Int:=mkv N fun j=>if j=i then 1 else 0
def wd(N:Nat)(A:Mx):Mx:=gl N fun i=>A.getD i []++ur N i
def Gr(p:Int)(c N:Nat)(A:Mx)(u:List Int):Prop:=∀j,j<c→at0 u j%p=(S N fun k=>at0 u (c+k)*ent A k j)%p
section
variable {p:Int} (hp:1<p) {c N:Nat}{A:Mx} (hA:∀i,i<N→Row p c (A.getD i []))
 include hA
theorem zDw:(wd N A).length=N:=by have _:=hA;exact yN
theorem zKA{i j:Nat}(hi:i<N)(hj:j<c):ent (wd N A) i j=ent A i j:=by rw[ent,wd,wA hi,zK9,(hA i hi).1,if_pos hj]
theorem zCg{i l:Nat}(hi:i<N)(hl:l<N):ent (wd N A) i (c+l)=if l=i then 1 else 0:=by
 rw[ent,wd,wA hi,zK9,(hA i hi).1,if_neg (by omega),Lv,ur,yC hl]
 include hp
theorem zTh{i:Nat}(hi:i<N):Row p (c+N) ((wd N A).getD i []):=by
 refine⟨by rw[wd,wA hi,J5,(hA i hi).1,ur,zU],fun j hj=>?_⟩;rcases Jn j c with g|g
 ·have:=(hA i hi).2 j g
  have e:=zKA hA hi g
  grind
 ·have e:=zCg hA (l:=j-c) hi (by omega)
  grind
theorem yCP{u:List Int}:Sp p (c+N) (wd N A) u↔Gr p c N A u:=by
 have _:=hp;constructor
 ·rintro⟨cf,c7⟩ j hj
  rw[zDw hA]at c7;rw[←c7 j (by omega)];refine zAA fun k hk=>?_
  have h1:=c7 (c+k) (by omega);rw[zAR (k:=k) hk (fun i hi gg=>by rw[zCg hA hi hk,if_neg (Ne.symm gg),Lt]),zCg hA hk hk,if_pos rfl,Ln]at h1;rw[zKA hA hk hj,Jv,h1,←Jv]
 ·intro h
  refine⟨fun k=>at0 u (c+k),fun j hj=>?_⟩;rw[zDw hA];rcases Jn j c with g|g
  ·rw[h j g]
   refine congrArg (· %p) (xL fun k hk=>?_);rw[zKA hA hk g]
  ·obtain⟨l,rfl⟩:∃l,j=c+l:=⟨j-c,by omega⟩
   rw[zAR (k:=l) (by omega) (fun i hi gg=>by rw[zCg hA hi (by omega),if_neg (Ne.symm gg),Lt]),zCg hA (by omega) (by omega),if_pos rfl,Ln]
variable {W:Mx}{pv:Nat→Nat} (hW:Red p (c+N) W pv) (hs:kJ p (c+N) W (wd N A))
 include hW
theorem yAo:∃t,t≤W.length∧(∀i,i<t→pv i<c)∧ ∀i,t≤i→i<W.length→c≤pv i:=by
 have _:=hA;have _:=hp;obtain⟨t,ht,eQ⟩:=zEe (p:=fun t=>W.length≤t∨c≤pv t) ⟨W.length,.inl (Jk _)⟩;have gF:∀i,i<t→i<W.length∧pv i<c:=fun i hi=>by have:=eQ i hi;exact⟨Qw fun h=>this (.inl h),Qw fun h=>this (.inr h)⟩
 refine⟨t,Nat.le_of_not_lt fun h=>?_,fun i hi=>(gF i hi).2,fun i hi fx=>?_⟩
 ·have:=(gF W.length h).1;omega
 ·rcases ht with h|h
  ·omega
  ·rcases Jn t i with g|g
   ·have:=hW.mono t i g fx;omega
   ·rw[show i=t from by omega];exact h
def nul(c t:Nat)(W:Mx):Mx:=gl (W.length-t) fun i=>(W.getD (t+i) []).drop c
 omit hp hA hW in
theorem zFl{t i j:Nat}(hi:t+i<W.length):ent (nul c t W) i j=ent W (t+i) (c+j):=by rw[ent,nul,wA (by omega),zIk]
variable {t:Nat} (ht:t≤W.length) (h1:∀i,i<t→pv i<c) (h2:∀i,t≤i→i<W.length→c≤pv i)
 include ht h1 h2
theorem zWD:Red p N (nul c t W) (fun i=>pv (t+i)-c):=by
 have _:=hp;have _:=hA;have _:=h1;have _:=ht;have hl:(nul c t W).length=W.length-t:=yN;have hpc:∀i,i<W.length-t→c≤pv (t+i):=by grind
 refine⟨fun i hi=>?_,fun i hi=>?_,fun i hi=>?_,fun i hi j hj=>?_,fun i k hi hk gg=>?_,fun i j eg hj=>?_⟩
 ·rw[hl]at hi
  have hr:=hW.row (t+i) (by omega);refine⟨by rw[nul,wA hi,Kr,hr.1];omega,fun j hj=>?_⟩;have:=hr.2 (c+j) (by omega)
  grind[nul]
 ·rw[hl]at hi
  have:=hW.lt (t+i) (by omega)
  grind
 ·rw[hl]at hi
  rw[zFl (by omega),show c+(pv (t+i)-c)=pv (t+i)from by grind];exact hW.one _ (by omega)
 ·rw[hl]at hi
  rw[zFl (by omega)];exact hW.low _ (by omega) _ (by omega)
 ·rw[hl]at hi hk
  rw[zFl (by omega),show c+(pv (t+i)-c)=pv (t+i)from by grind];exact hW.off _ _ (by omega) (by omega) (by omega)
 ·rw[hl]at hj
  have:=hW.mono (t+i) (t+j) (by omega) (by omega)
  grind
 include hs
theorem yCQ{u:List Int}:Sp p (c+N) W u↔Gr p c N A u:=by have _:=hW;have _:=ht;have _:=h1;have _:=h2;exact hs.iff.trans (yCP hp hA)
theorem yAp{x:List Int}:Sp p N (nul c t W) x↔ ∀j,j<c→(S N fun k=>at0 x k*ent A k j)%p=0:=by
 have hl:(nul c t W).length=W.length-t:=yN;constructor
 ·rintro⟨cf,c7⟩ j hj
  rw[hl]at c7;have e1:(S N fun k=>at0 x k*ent A k j)%p=(S N fun k=>(S (W.length-t) fun i=>cf i*ent (nul c t W) i k)*ent A k j)%p:=by grind[zAA,Jv]
  have e2:(S N fun k=>(S (W.length-t) fun i=>cf i*ent (nul c t W) i k)*ent A k j)=S (W.length-t) fun i=>cf i*S N fun k=>ent W (t+i) (c+k)*ent A k j:=by
   rw[xL (g:=fun k=>S (W.length-t) fun i=>cf i*(ent W (t+i) (c+k)*ent A k j)) (fun k hk=>by rw[←zMl];exact xL (by grind[zFl])),zHV]
   grind[zDq]
  have e3:(S (W.length-t) fun i=>cf i*S N fun k=>ent W (t+i) (c+k)*ent A k j)%p=(S (W.length-t) fun _=>0)%p:=zAA fun i hi=>by have h:=(yCQ hp hA hW hs ht h1 h2).1 (qL (p:=p) (n:=c+N) (R:=W) (i:=t+i) (by omega)) j hj;have hz:=hW.low (t+i) (by omega) j (by grind);simp only[ent]at hz;rw[hz]at h;rw[Jv,show(S N fun k=>ent W (t+i) (c+k)*ent A k j)%p=0 from h.symm,Lt]
  rw[e1,e2,e3,qK];rfl
 ·intro h0
  let u:List Int:=mkv (c+N) fun j=>if j<c then 0 else at0 x (j-c)
  have fO:∀j,j<c→at0 u j=0:=fun j hj=>by rw[yC (by omega),if_pos hj]
  have c8:∀k,k<N→at0 u (c+k)=at0 x k:=fun k hk=>by rw[yC (by omega),if_neg (by omega),Lv]
  have hg:Gr p c N A u:=fun j hj=>by rw[fO j hj,xL (g:=fun k=>at0 x k*ent A k j) (by grind),h0 j hj];rfl
  have hx:=hW.expand ((yCQ hp hA hW hs ht h1 h2).2 hg);refine⟨fun i=>at0 u (pv (t+i)),fun j hj=>?_⟩;have h3:=hx (c+j) (by omega);rw[c8 j hj,yAn ht (by grind)]at h3;rw[hl,h3];exact congrArg (· %p) (xL (by grind[zFl]))
end
end Go.Pl

namespace Go.Pl
open Go Go.Ab Go.Wk Go.Pc
theorem zKB{v:List Int}(hl:v.length≤1000000):IsB (f_U v) (∀i,i<v.length→at0 v i=0):=by
 refine qI v.length (fun i=>at0 v i=0) rfl (fun i hi _=>?_) ?_
 ·refine uP (o:=dJ (at0 v i==0)) (IsB.of_bool (by simp)) (by omega) ?_
  unfold zMX;rw[yI hi,zK,yF hi,bs,bs];rfl
 ·unfold zMX
  simp
end Go.Pl

namespace Go.Pl
open Go Go.Ab Go.Wk Go.Pc
end Go.Pl

namespace Go.Pl
open Go Go.Ab Go.Wk Go.Pc
section
variable {n D:Nat}{m:zC} (hm:MOk n m D) (hn:n≤14)
 include hm hn
def yCR(m:zC)(D:Nat)(rows:Mx):Prop:=∀i,i<rows.length→Row m.Prime D (rows.getD i [])
theorem zKC{rows:Mx}(hl:rows.length≤1048576):IsB (yAR m rows) (yCR m D rows):=by
 have _:=hn;have h3:=hm.d3;refine qI (body:=zNi m rows) rows.length (fun i=>Row m.Prime D (rows.getD i [])) rfl (fun i hi _=>?_) ?_
 ·refine uP (zDu hm.p (D:=D) (by omega)) (by omega) ?_
  unfold zNi;rw[yI hi,zK,zT [] hi,bs,hm.d]
 ·unfold zNi
  simp
end
end Go.Pl

namespace Go.Pl
open Go Go.Ab Go.Wk Go.Pc
structure Nul (p:Int) (c N:Nat) (A W:Mx) (pv:Nat→Nat) (t:Nat):Prop where
 row:∀i,i<N→Row p c (A.getD i [])
 len:A.length=N
 red:Red p (c+N) W pv
 sp:kJ p (c+N) W (wd N A)
 le:t≤W.length
 lo:∀i,i<t→pv i<c
 hi:∀i,t≤i→i<W.length→c≤pv i
section
variable {p:Int} (hp:Prime p) {c N:Nat} (fa:c+N≤100000) {A W:Mx}{pv:Nat→Nat}{t:Nat}
 include hp fa
theorem Nul.get(hr:∀i,i<N→Row p c (A.getD i []))(hl:A.length=N):∃W pv t,Nul p c N A W pv t∧f_E p (wd N A)=dJ W∧f_r p (wd N A)=dJ W:=by have h7:=hp.pos;obtain⟨W,pv,r1,r2,r3,r4⟩:=zDv hp (n:=c+N) fa (rows:=wd N A) (by rw[zDw hr];omega) (fun i hi=>zTh (by omega) hr (by rwa [zDw hr]at hi));obtain⟨t,t1,t2,t3⟩:=yAo (by omega) hr r3;exact⟨W,pv,t,⟨hr,hl,r3,r4,t1,t2,t3⟩,r1,r2⟩
variable (h:Nul p c N A W pv t)
 include h
theorem Nul.nred:Red p N (nul c t W) (fun i=>pv (t+i)-c):=by have _:=fa;have h7:=hp.pos;exact zWD (by omega) h.row h.red h.le h.lo h.hi
theorem Nul.nsp{x:List Int}:Sp p N (nul c t W) x↔ ∀j,j<c→(S N fun k=>at0 x k*ent A k j)%p=0:=by have _:=fa;have h7:=hp.pos;exact yAp (by omega) h.row h.red h.sp h.le h.lo h.hi
theorem Nul.full:W.length=N:=by
 have h7:=hp.pos;have g1:W.length≤(wd N A).length:=zIf hp (n:=c+N) fa (by rw[zDw h.row];omega) (fun i hi=>zTh (by omega) h.row (by rwa [zDw h.row]at hi)) h.red h.sp;rw[zDw h.row]at g1;have hl:(gl W.length fun i=>(W.getD i []).drop c).length=W.length:=yN;have hR:∀i,i<W.length→Row p N ((gl W.length fun i=>(W.getD i []).drop c).getD i []):=fun i hi=>by have hr:=h.red.row i hi;rw[wA hi];refine⟨by rw[Kr,hr.1];omega,fun j hj=>?_⟩;rw[zIk];exact hr.2 (c+j) (by omega)
 obtain⟨R3,pv3,_,_,g3,g4⟩:=zDv hp (n:=N) (by omega) (rows:=gl W.length fun i=>(W.getD i []).drop c) (by omega) (by grind);have g5:=zIf hp (n:=N) (by omega) (by omega) (by grind) g3 g4;have eS:(gl N (ur N)).length=N:=yN;have dl:∀i j,i<N→j<N→ent (gl N (ur N)) i j=if j=i then 1 else 0:=fun i j hi hj=>by rw[ent,wA hi,ur,yC hj]
 have eB:Red p N (gl N (ur N)) (fun i=>i):=by
  refine⟨fun i hi=>?_,fun i hi=>by omega,fun i hi=>?_,fun i hi j hj=>?_,by grind,fun i j eg hj=>eg⟩
  ·rw[eS]at hi
   rw[wA hi];refine⟨zU _ _,fun j hj=>?_⟩
   grind
  all_goals grind
 have g6:=eB.le_of (by omega) g3 (fun i hi=>by rw[eS]at hi;refine g4.iff.2 ?_;obtain⟨cf,c7⟩:=h.sp.2 i (by rw[zDw h.row];exact hi);refine⟨cf,fun j hj=>?_⟩;have h1:=c7 (c+j) (by omega);have h2:=zCg h.row hi hj;simp only[ent]at h2;rw[h2]at h1;have h3:=dl i j hi hj;simp only[ent]at h3;rw[h3,hl,←h1];exact congrArg (· %p) (xL (by grind)))
 omega
 omit h in
theorem zOc{N:Nat}(hN:N≤100000):f_D (N:Int)=dJ (gl N (ur N)):=by
  have _:=hp;have _:=fa;unfold f_D;rw[tI (body:=zIB (N:Int)) N (ur N) (fun i acc hi ha=>by
    unfold zIB;simp only
    rw[yI hi,zK,yK (by omega),bs,uZ,Kg,if_pos hi,bs,J8,vX,qX,zP (by simp;omega),bs,zF (by omega) (by omega),bs,cs];rfl) (fun acc=>by
    unfold zIB;simp),bs]
 omit h in
theorem zQR(hr:∀i,i<N→Row p c (A.getD i []))(hl:A.length=N):zXv p A=f_E p (wd N A):=by
  unfold zXv;rw[hl,zOc hp fa (by omega),bs,tI (body:=zNh A (gl N (ur N))) N (fun i=>A.getD i []++ur N i) (fun i acc hi ha=>by
    unfold zNh;simp only
    rw[hl,yI hi,zK,zT [] (by omega),bs,xX (by rw[(hr i hi).1];omega),bs,zAC hi,bs,zP (by rw[(hr i hi).1,ur,zU];omega),bs,zP (by simp;omega),bs,zF (by omega) (by omega),bs,cs]) (fun acc=>by
    unfold zNh
    grind),bs]
  grind[wd]
theorem zQS:zH (zJS (c:Int) W) ([],0)=dJ (nul c t W):=by
 have hf:=h.full hp fa;have c0:=h.le;have:=zM (body:=zJS (c:Int) W) (r:=nul c t W) (fun i=>(gl (i-t) (fun k=>(W.getD (t+k) []).drop c),(i:Int))) W.length (fun i hi=>by
  have hr:=h.red.row i hi;have h1:=h.red.one i hi;have gF:=h.red.lt i hi;have bP:=zK8 (n:=c+N) hr.1 (by omega) gF (h.red.low i hi) (by grind);unfold zJS;simp only
  rw[yI hi,zK,zT [] hi,bs,bP,bs];rcases Jn i t with g|g
  ·have:=h.lo i g
   rw[dO (by omega),zL,zF (by omega) (by omega),bs,cs,show i-t=0 from by omega,show i+1-t=0 from by omega]
  ·have:=h.hi i g hi
   have e:zQ (W.getD i []) (c:Int) ((W.getD i []).length:Int)=dJ ((W.getD i []).drop c):=by unfold zQ;rw[if_pos (by grind),J8,J8,Jr (by rw[Kr];omega)]
   rw[dP (by omega),zK,bs,e,bs,xX (by rw[Kr,hr.1];omega),bs,zP (by rw[yN];simp;omega),bs,zF (by omega) (by omega),bs,cs,show i+1-t=(i-t)+1 from by omega,←xV,show t+(i-t)=i from by omega]) (by
  unfold zJS;simp only
  rw[vR,zL];rfl)
 grind
end
end Go.Pl

namespace Go.Pl
open Go Go.Ab Go.Wk Go.Pc
theorem zPE{β:Type}{n:Nat}{F:Nat→β}:gl (n+1) F=gl n F++[F n]:=xV.symm
theorem zPF{β:Type}{L:Nat}{F:Nat→List β}:∀{n:Nat},(∀i,i<n→(F i).length=L)→(gl n F).flatten.length=n*L
 |0,_=>by simp[gl]
 |n+1,h=>by
  rw[zPE,Uz,J5,zPF fun i hi=>h i (by omega),K7]
  grind
theorem zTi{β:Type}{body:List β×Int→Option ((List β×Int)⊕List β)}(n L:Nat)(F:Nat→List β)(a0:List β)(hF:∀i,i<n→(F i).length=L)
  (h:∀i acc,i<n→acc.length=a0.length+i*L→body (acc,(i:Int))=dJ (.inl (acc++F i,((i+1:Nat):Int))))(he:∀acc,body (acc,(n:Int))=dJ (.inr acc)):
  zH body (a0,0)=dJ (a0++(gl n F).flatten):=by
 have:=zM (body:=body) (r:=a0++(gl n F).flatten) (fun i=>(a0++(gl i F).flatten,(i:Int))) n (fun i hi=>by rw[h i _ hi (by grind[zPF]),zPE,Uz,Jg];simp) (he _)
 grind
end Go.Pl

namespace Go.Pl
open Go Go.Ab Go.Wk Go.Pc
end Go.Pl

namespace Go.Pl
open Go Go.Ab Go.Wk Go.Pc
theorem zIl{α:Type}{f:α→α}{a:α}(h:f a=a):∀k,iter k f a=a
 |0=>rfl
 |k+1=>by show iter k f (f a)=a;rw[h];exact zIl h k
theorem zTj{p:Int}{D:Nat}{A:List Mx}:∀(v:Vec)(o:Nat)(B:Mx),o+v.length≤A.length→wM p D A (nw o v) B=img (PM p D) (A.drop o) v B
 | [],o,B,_=>by simp[nw,wM,img]
 |a::v,o,B,h=>by
  simp only[Jc]at h;have e:A.drop o=A.getD o []::A.drop (o+1):=by grind[Gs]
  rw[e];simp only[nw,img];rw[zDJ,zHZ,zTj v (o+1) _ (by omega)]
theorem zDx:∀(k o:Nat),nw o (zeros k)=[]
 |0,_=>rfl
 |k+1,o=>by rw[show zeros (k+1)=0::zeros k from rfl];simp only[nw];rw[zDx k];rfl
section
variable {x:SPr}{m:zC}{D:Nat} (h:Pres x) (hm:zSW x.zA.length m D) (hr:zCe x m D)
 include hm
 include h hr
theorem zPG:∀(d k:Nat),k+d=x.zA.length→Rel (PM m.Prime D) (idM D) (suf x k) (m.zG.drop k)
 |0,k,hk=>by rw[vA (by omega),Gi (by rw[hm.len];omega)];exact rfl
 |d+1,k,ml=>by
  have h6:=h.os.1;have hk:k<x.zA.length:=by omega
  have gf:=hm.len;have e:m.zG.drop k=m.zG.getD k []::m.zG.drop (k+1):=by simp_all
  obtain⟨t1,t2,t3⟩:=h.tl k hk;obtain⟨r1,r2⟩:=hr k hk;have be:∀v,Exp x.zA v k→wM m.Prime D m.zG (nw 0 v) (idM D)=img (PM m.Prime D) (m.zG.drop (k+1)) (v.drop (k+1)) (idM D):=fun v hv=>by
   have hl:=hv.1.1
   conv=>lhs;rw[zBd hv hk]
   rw[zDI,zDx,Jq,zV,zTj _ _ _ (by grind),Jd]
  rw[zY hk,e];refine⟨?_,fun q c dd hc hd=>?_,zPG d (k+1) (by omega)⟩
  ·grind[pw,lvl,zHZ]
  ·rw[Lm]at hc
   have hq:k+1+q<m.zG.length:=by grind
   have ac:c=m.zG.getD (k+1+q) []:=by grind
   have mw:dd=((x.zB.getD k []).getD q []).drop (k+1):=by grind[lvl]
   have:=r2 (k+1+q) (by omega) (by omega);rw[show k+1+q-(k+1)=q from by omega]at this;rw[ac,mw,this,be _ (t3 q (by omega))]
end
end Go.Pl

namespace Go.Pl
open Go Go.Ab Go.Wk Go.Pc
theorem zFm{p:Int}{c N:Nat}(fa:c+N≤100000){A:Mx}(hr:∀i,i<N→Row p c (A.getD i []))(hl:A.length=N):yAP A=dJ (wd N A):=by
 unfold yAP;rw[tI (body:=zQm A) N (fun i=>A.getD i []++ur N i) (fun i acc hi ha=>by
  have h1:=(hr i hi).1;have e:wC (J1 (c+N) (0:Int)) 0 ((A.getD i []).take (((J1 (c+N) (0:Int)).length)-0))=A.getD i []++J1 N 0:=by unfold wC;rw[J6,Jr (l:=A.getD i []) (by omega),Km,Jq,h1,L6];simp
  have e2:ixO (A.getD i []++J1 N (0:Int)) ((c+i:Nat):Int)=dJ 0:=by rw[uZ,Je (by omega),h1,Kg,if_pos (by omega)]
  unfold zQm;simp only
  rw[hl,yI hi,zK,zT [] (by omega),bs,h1,←H1,zF (by omega) (by omega),bs,yK (by omega),bs,←H1,zF (by omega) (by omega),bs,e,e2,bs,J8,Qh _ _ (by omega),h1,Lv,vX,qX,zP (by simp;omega),bs,zF (by omega) (by omega),bs,cs];rfl) (fun acc=>by
  unfold zQm
  grind),bs]
 rfl
end Go.Pl

namespace Go.Pl
open Go Go.Ab Go.Wk Go.Pc
theorem zM3{p:Int}(hp:Prime p){n:Nat}(hn:n≤100000){R:Mx}{pv:Nat→Nat}(h:Red p n R pv):f_E p R=dJ R∧f_r p R=dJ R:=by
 have h7:=hp.pos;have hl:R.length≤n:=h.len_le;obtain⟨R2,pv2,r1,r2,r3,r4⟩:=zDv hp hn (rows:=R) (by omega) h.row;have e:=r3.unique (by omega) h r4
 grind
section
variable {p:Int} (hp:Prime p) {c N:Nat} (fa:c+N≤100000) {A W:Mx}{pv:Nat→Nat}{t:Nat}
 include hp fa
theorem zM4(h:Nul p c N A W pv t):zH (zNq (c:Int) W) ([],0)=dJ (nul c t W):=by
 have h7:=hp.pos;have hf:=h.full hp fa;have c0:=h.le;have:=zM (body:=zNq (c:Int) W) (r:=nul c t W) (fun i=>(gl (i-t) (fun k=>(W.getD (t+k) []).drop c),(i:Int))) W.length (fun i hi=>by
  have hr:=h.red.row i hi;have h1:=h.red.one i hi;have e0:zQ (W.getD i []) 0 (c:Int)=dJ ((W.getD i []).take c):=by unfold zQ;rw[if_pos ⟨by omega,by omega,by rw[hr.1];omega⟩,J8,show(0:Int).toNat=0 from rfl,G9,Qn]
  have fe:((W.getD i []).take c).length=c:=by rw[L4,hr.1];omega
  have hz:=zKB (v:=(W.getD i []).take c) (by omega);unfold zNq;simp only
  rw[yI hi,zK,zT [] hi,bs,e0,bs];rcases Jn i t with g|g
  ·have gT:=h.lo i g
   rcases hz with⟨_,z⟩|⟨z,_⟩
   ·grind
   ·rw[z,bs,zL,zF (by omega) (by omega),bs,cs,show i-t=0 from by omega,show i+1-t=0 from by omega]
  ·have eh:=h.hi i g hi
   have e:zQ (W.getD i []) (c:Int) ((W.getD i []).length:Int)=dJ ((W.getD i []).drop c):=by unfold zQ;rw[if_pos (by grind),J8,J8,Jr (by rw[Kr];omega)]
   rcases hz with⟨z,_⟩|⟨_,z⟩
   ·rw[z,bs,zK,e,bs,zP (by grind),bs,zF (by omega) (by omega),bs,cs,show i+1-t=(i-t)+1 from by omega,←xV,show t+(i-t)=i from by omega]
   ·refine absurd (fun j hj=>?_) z
    rw[fe]at hj;rw[zTg hj];have:=h.red.low i hi j (by omega);omega) (by
  unfold zNq;simp only
  rw[vR,zL];rfl)
 grind
theorem zGc(hr:∀i,i<N→Row p c (A.getD i []))(hl:A.length=N):∃K pk,zXw p A (c:Int)=dJ K∧zNr p A (c:Int)=dJ K∧Red p N K pk∧ ∀x,Sp p N K x↔ ∀j,j<c→(S N fun k=>at0 x k*ent A k j)%p=0:=by
 obtain⟨W,pv,t,h1,h2,h3⟩:=Nul.get hp fa hr hl;refine⟨nul c t W,_,?_,?_,h1.nred hp fa,fun x=>h1.nsp hp fa⟩
 ·grind[zXw,zQR,zQS]
 ·unfold zNr
  rw[zFm fa hr hl,bs,h3,bs,zM4 hp fa h1,bs,(zM3 hp (by omega) (h1.nred hp fa)).2,bs]
end
end Go.Pl

namespace Go.Pl
open Go Go.Ab Go.Wk Go.Pc
def zWE(n D:Nat)(v:List Int):Mx:=gl n fun i=>mkv D fun j=>at0 v (i*D+j)
theorem zTk{v:List Int}{D a:Nat}(h:a+D≤v.length):(v.drop a).take D=mkv D fun j=>at0 v (a+j):=by
 have hl:((v.drop a).take D).length=D:=by grind
 rw[vC hl]
 grind[yA]
theorem zJI{v:List Int}{D a:Nat}(h:a+D≤v.length):zQ v (a:Int) ((a+D:Nat):Int)=dJ (mkv D fun j=>at0 v (a+j)):=by unfold zQ;rw[if_pos (by omega),J8,J8,Lv,zTk h]
theorem yAq{p:Int}{n D:Nat}{v:List Int}(hv:Row p (n*D) v):VOk n p D (zWE n D v):=by
 refine⟨yN,fun i hi=>?_⟩;rw[zWE,wA hi];refine⟨zU _ _,fun j hj=>?_⟩;rw[yC hj];have:i*D+D≤n*D:=by
  have:=Jw D (show i+1≤n by omega)
  grind
 exact hv.2 _ (by omega)
end Go.Pl

namespace Go.Pl
open Go Go.Ab Go.Wk Go.Pc
end Go.Pl

namespace Go.Pl
open Go Go.Ab Go.Wk Go.Pc
theorem zWF{n D i:Nat}(hi:i<n):i*D+D≤n*D:=by
 have:=Jw D (show i+1≤n by omega)
 grind
theorem zTl{n D:Nat}(hD:1≤D)(hD3:D≤1000){v:List Int}(hl:v.length=n*D)(hs:n*D≤100000):zX3 v (D:Int)=dJ (zWE n D v):=by
 have hn:n≤n*D:=Nat.le_mul_of_pos_right n hD;have:=zM (body:=zNs v (D:Int)) (r:=zWE n D v) (fun i=>(gl i fun i=>mkv D fun j=>at0 v (i*D+j),((i*D:Nat):Int))) n (fun i hi=>by
  have h1:=zWF (D:=D) hi;unfold zNs;simp only
  rw[←H1,zF (by omega) (by omega),bs,dP (by omega),zK,bs,zJI (by omega),bs,xX (by grind[zU]),bs,zP (by rw[yN];simp;omega),bs,bs,xV,←K7]) (by
  unfold zNs;simp only
  rw[←H1,zF (by omega) (by omega),bs,dO (by omega),zL];rfl)
 grind[zX3]
section
variable {x:SPr} (h:Pres x) {m:zC}{D:Nat} (hm:MOk x.zA.length m D)
 include h hm
section
variable {vals:Mx} (hv:VOk x.zA.length m.Prime D vals)
 include hv
theorem yDZ{q:Rl}:(dfc m D vals q).length=D:=by have _:=h;have _:=hm;have _:=hv;exact zMw
theorem zOd:f_B x m vals=dJ ((sH x).map (dfc m D vals)):=by
 have h6:=h.os.1;have h7:=hm.p.pos;have h3:=hm.d3;have fW:=h.pl;have gA:=h.cl;have hz:=zIe (p:=m.Prime) (D:=D) (by omega);unfold f_B;rw[hm.d,yK (by omega),bs];have e1:=tI (body:=zUZ x m vals D) x.zA.length (fun i=>dfc m D vals (r1 x i)) (fun i acc hi ha=>by
  obtain⟨p1,p2⟩:=kF h.os (h.tl i hi).1;have ho:=(h.os.2 i hi).pos;unfold zUZ;simp only
  rw[yI hi,zK];rw[vN (S:=Row m.Prime D) (body:=zUY x m vals (acc,(i:Int))) (fun v=>v) (fun v=>stp m D vals v i) (at0 x.zA i) (by omega) (by grind[zC2]) (fun u q hu hq=>by
   unfold zUY;simp only
   rw[yF hi,bs,dP hq,zK,zCf hm h6 hv hu hi,bs,zF (by omega) (by omega),bs,cs]) (fun u hu=>by
   unfold zUY;simp only
   rw[yF hi,bs,dO (by omega),zL]) hz,bs,zF (by omega) (by omega),bs,zT [] (by omega),bs,zG3 hm h6 hv hz p1 p2,bs,←zNR]
  have e1:f_H m.Prime (ev m D vals (z0 D) (J1 (at0 x.zA i).toNat i)) (m.Prime-1) (ev m D vals (z0 D) (nw 0 (x.zJ.getD i [])))=dJ (dfc m D vals (r1 x i)):=by rw[uQ hm.p (zK6 hm h6 hv hz _) (zK6 hm h6 hv hz _) (by omega) (by omega),zE4];rfl
  grind[zP,zF]) (fun acc=>by
  unfold zUZ;simp)
 rw[e1,bs];have ab:=zId h;have e2:=zM (body:=zVb x m vals D) (r:=(sH x).map (dfc m D vals)) (fun i=>(((Jh x.zA.length).map (fun i=>dfc m D vals (r1 x i)))++((Jh i).flatMap (R2 x)).map (dfc m D vals),(i:Int))) x.zA.length (fun i hi=>by
  have t2:=(h.tl i hi).2.1;have hfi:=ab i (by omega);unfold zVb;simp only
  rw[yI hi,zK,zF (by omega) (by omega),bs,cs];have gJ:=zM (body:=zVa x m vals D (((Jh x.zA.length).map (fun i=>dfc m D vals (r1 x i)))++((Jh i).flatMap (R2 x)).map (dfc m D vals),(i:Int)))
   (r:=((Jh x.zA.length).map (fun i=>dfc m D vals (r1 x i)))++((Jh (i+1)).flatMap (R2 x)).map (dfc m D vals))
   (fun j=>(((Jh x.zA.length).map (fun i=>dfc m D vals (r1 x i)))++((Jh i).flatMap (R2 x)).map (dfc m D vals)++(Jh j).map (fun j=>dfc m D vals (r2 x i j)),((i+1+j:Nat):Int))) (x.zB.getD i []).length (fun j hj=>by
   obtain⟨c1,c2⟩:=kF h.os ((h.tl i hi).2.2 j hj);have mY:i+1+j<x.zA.length:=by omega
   have s1:=zCf hm h6 hv hz mY;have s2:=zCf hm h6 hv (zC2 hm h6 hv (v:=z0 D) (w:=i+1+j)) hi;have s3:=zCf hm h6 hv hz hi;have s4:=zG3 hm h6 hv (zC2 hm h6 hv (v:=z0 D) (w:=i)) c1 c2;unfold zVa;simp only
   rw[yI mY,zK,s1,bs,s2,bs,s3,bs,zT [] (by omega),bs,zF (by omega) (by omega),bs,zF (by omega) (by omega),bs,show(((i+1+j:Nat):Int)-(i:Int)-1)=(j:Int)from by omega,zT [] hj,bs,s4,bs,zF (by omega) (by omega),bs];have e2:f_H m.Prime (stp m D vals (stp m D vals (z0 D) (i+1+j)) i) (m.Prime-1) (ev m D vals (stp m D vals (z0 D) i) (nw 0 ((x.zB.getD i []).getD j [])))=dJ (dfc m D vals (r2 x i j)):=by
    rw[uQ hm.p (zC2 hm h6 hv) (by grind[zK6,zC2]) (by omega) (by omega),zE4];simp only[dfc,r2,ev,G1,List.foldl_nil]
    grind
   rw[e2,bs,zP (by grind[Js]),bs,zF (by omega) (by omega),bs,cs,Lo,Ls,Jg];rfl) (by
   unfold zVa;simp only
   rw[show i+1+(x.zB.getD i []).length=x.zA.length from by omega,vR,zL,Lo (n:=i),Jb1,Ls,←Jg];simp[R2])
  simp_all) (by
  unfold zVb;simp only
  rw[vR,zL];simp only[sH,Ls,Uu];rfl)
 simp_all
end
end
end Go.Pl

namespace Go.Pl
open Go Go.Ab Go.Wk Go.Pc
end Go.Pl

namespace Go.Pl
open Go Go.Ab Go.Wk Go.Pc
end Go.Pl

namespace Go.Pl
open Go Go.Ab Go.Wk Go.Pc
theorem zIm{N c:Nat}{f:Nat→Int}:(mkv N f).drop c=mkv (N-c) fun i=>f (c+i):=by
 have hl:((mkv N f).drop c).length=N-c:=by rw[Kr,zU]
 grind[vC,yA,zIk,yC]
theorem zAD{n j:Nat}:yZ n j=mkv n fun i=>if i=j then 1 else 0:=by rw[yZ,show zeros n=J1 n (0:Int)from rfl,vX,qX]
theorem uM{n i:Nat}:at0 (zeros n) i=0:=by
 rcases Jn i n with g|g
 ·simp[zeros,at0,J3,g]
 ·simp[zeros,at0,J3,g]
theorem zEi.p{x:SPr}(h:zEi x)(hl:x.zA.length≤14):Pres x:=⟨⟨hl,h.os.2⟩,h.pl,h.cl,h.tl⟩
structure ExB (n D:Nat) (x:SPr) (m:zC) (T:Mx):Prop where
 hn:n≤6
 o:x.zA.length=n
 p:x.zJ.length=n
 c:x.zB.length=n
 cl:∀i,i<n→(x.zB.getD i []).length=n-1-i
 t:T.length=base n n
 m:zSW n m D
theorem zGa.b{n D:Nat}{x:SPr}{m:zC}{T:Mx}(h:zGa n D x m T)(hm:MOk n m D):ExB n D x m T:=⟨h.hn,h.o,h.p,h.c,h.cl,h.t,hm.b⟩
section
variable {D:Nat}{x:SPr}{m:zC}{T:Mx} (h:Pres x) (hE:ExB x.zA.length D x m T) (hT:∀i,i<T.length→Row m.Prime D (T.getD i []))
 include h hE hT
abbrev exx(D:Nat)(x:SPr)(m:zC)(T:Mx):SPr:=ext x.zA.length D x m T
theorem xM:(exx D x m T).zA.length=x.zA.length+D:=by have _:=h;have _:=hE;have _:=hT;simp[exx,ext]
theorem tC{i:Nat}(hi:i<x.zA.length):at0 (exx D x m T).zA i=at0 x.zA i:=by
 have _:=h;have _:=hE;have _:=hT;show at0 (x.zA++J1 D m.Prime) i=_
 grind
theorem zC5{i:Nat}(hi:x.zA.length≤i)(h2:i<x.zA.length+D):at0 (exx D x m T).zA i=m.Prime:=by
 have _:=h;have _:=hE;have _:=hT;show at0 (x.zA++J1 D m.Prime) i=_
 grind
theorem zOe{v t:List Int}{i:Nat}(hv:v.length=x.zA.length)(hr:∀j,j<x.zA.length→0≤at0 v j∧at0 v j≤at0 x.zA j-1)(hz:∀j,j≤i→j<x.zA.length→at0 v j=0)(ht:Row m.Prime D t)(hi:i<x.zA.length):Exp (exx D x m T).zA (v++t) i:=by
 have hl:=xM h hE hT;refine⟨⟨by rw[J5,hv,ht.1,hl],fun j hj=>?_⟩,fun j hj=>?_⟩
 ·rw[J5,hv,ht.1]at hj
  rw[zK9,hv];split
  ·grind[tC]
  ·next g=>rw[zC5 h hE hT (by omega) hj];exact ht.2 _ (by omega)
 grind
theorem zM5(i:Nat)(hi:i<base x.zA.length x.zA.length):Row m.Prime D (T.getD i []):=by have _:=h;exact hT i (by rw[hE.t];exact hi)
theorem zFn:zEi (exx D x m T):=by
 have hn:=hE.hn;have h3:=hE.m.d3;have h7:=hE.m.p.pos;have hl:=xM h hE hT;have hb:=xW x.zA.length (by omega);refine⟨⟨trivial,fun i hi=>?_⟩,by rw[hl];exact yN,by rw[hl];exact yN,fun i hi=>?_⟩
 ·rw[hl]at hi
  rcases Jn i x.zA.length with g|g
  ·rw[tC h hE hT g];exact h.os.2 i g
  ·rw[zC5 h hE hT g hi];exact hE.m.p
 ·rw[hl]at hi
  have hP:(exx D x m T).zJ.getD i []=exP x.zA.length D x T i:=wA hi;have hC:(exx D x m T).zB.getD i []=exC x.zA.length D x m T i:=by
   show(gl (x.zA.length+D) (exC x.zA.length D x m T)).getD i []=_
   grind
  refine⟨?_,?_,?_⟩
  ·rw[hP,exP]
   rcases Jn i x.zA.length with g|g
   ·rw[if_pos g]
    obtain⟨t1,_,_⟩:=h.tl i g;exact zOe h hE hT t1.1.1 (fun j hj=>t1.1.2 j (by rw[t1.1.1];exact hj)) (fun j hj _=>t1.2 j hj) (by grind[zM5]) g
   ·rw[if_neg (by omega)]
    have hz:∀j,at0 (J1 (x.zA.length+D) (0:Int)) j=0:=fun j=>uM
    refine⟨⟨by grind,fun j hj=>?_⟩,fun j _=>hz j⟩;rw[J6]at hj;rw[hz];rcases Jn j x.zA.length with g2|g2
    ·rw[tC h hE hT g2];have:=(h.os.2 j g2).pos;omega
    grind[zC5]
  ·grind[exC,unC]
  ·rw[hC,exC]
   split
   ·next g=>
    intro j hj;rw[yN]at hj;rw[wA hj,exF];split
    ·next g2=>
     have gA:=hE.cl i g;have fT:=qD x.zA.length (by omega) i g;obtain⟨_,_,t3⟩:=h.tl i g;have t:=t3 j (by omega);exact zOe h hE hT t.1.1 (fun q hq=>t.1.2 q (by rw[t.1.1];exact hq)) (fun q hq _=>t.2 q hq) (by grind[zM5]) g
    ·next g2=>
     have hz:∀j,at0 (J1 x.zA.length (0:Int)) j=0:=fun j=>uM
     refine zOe h hE hT (by simp) (fun q hq=>?_) (fun q _ _=>hz q) ((hE.m.mat i g).2 _ (by omega)) g;rw[hz];have:=(h.os.2 q hq).pos;omega
   ·next g=>
    intro j hj;rw[unC,yN]at hj;rw[unC,wA hj];refine⟨⟨by rw[hl];exact zU _ _,fun q hq=>?_⟩,fun q hq=>?_⟩
    ·rw[uE,zU]at hq
     rw[uE,yC hq];rcases Jn q x.zA.length with g2|g2
     ·rw[tC h hE hT g2];have:=(h.os.2 q g2).pos;omega
     grind[zC5]
    ·rw[uE,yC (by omega),if_neg (by omega)]
theorem zCh{k:Nat}(hk:k<x.zA.length):(lvl (exx D x m T) k).o=at0 x.zA k:=tC h hE hT hk
theorem zIn{k:Nat}(hk:k<x.zA.length):(lvl (exx D x m T) k).w=(lvl x k).w++T.getD k []:=by have t1:=(h.tl k hk).1.1.1;have _:=hE;have _:=hT;show((exx D x m T).zJ.getD k []).drop (k+1)=_;have hP:(exx D x m T).zJ.getD k []=exP x.zA.length D x T k:=wA (by omega);rw[hP,exP,if_pos hk,Ko (by omega)];rfl
def eC1(x:SPr)(T:Mx)(k:Nat):List Vec:=gl (x.zA.length-1-k) fun j=>(lvl x k).cs.getD j []++T.getD (base x.zA.length k+j) []
def eC2(x:SPr)(m:zC)(D k:Nat):List Vec:=((gl D fun j=>(m.zG.getD k []).getD j []).map fun r=>zeros (x.zA.length-1-k)++r)
theorem zC6{k:Nat}(hk:k<x.zA.length):(lvl (exx D x m T) k).cs=eC1 x T k++eC2 x m D k:=by
 have gA:=hE.cl k hk;have _:=hT;show((exx D x m T).zB.getD k []).map (·.drop (k+1))=_;have hC:(exx D x m T).zB.getD k []=exC x.zA.length D x m T k:=by
  show(gl (x.zA.length+D) (exC x.zA.length D x m T)).getD k []=_
  grind
 rw[hC,exC,if_pos hk];apply Kl;intro j
 by_cases hj:j<x.zA.length+D-1-k
 ·have e1:((gl (x.zA.length+D-1-k) (exF x.zA.length x m T k)).map (·.drop (k+1)))[j]? =dJ ((exF x.zA.length x m T k j).drop (k+1)):=by grind
  rw[e1,exF]
  by_cases g:j<x.zA.length-1-k
  ·rw[if_pos g,K3 (by grind[eC1])]
   have t:=(h.tl k hk).2.2 j (by omega);rw[Ko (by have:=t.1.1;omega)];have e2:(eC1 x T k)[j]? =dJ ((lvl x k).cs.getD j []++T.getD (base x.zA.length k+j) []):=by simp[eC1,gl,g]
   rw[e2]
   congr 2
   simp only[lvl,J3,K4]
   grind
  ·rw[if_neg g,Je (by grind[eC1]),eC1,yN]
   have e2:(eC2 x m D k)[j-(x.zA.length-1-k)]? =dJ (zeros (x.zA.length-1-k)++(m.zG.getD k []).getD (j-(x.zA.length-1-k)) []):=by simp[eC2,gl,show j-(x.zA.length-1-k)<D by omega]
   rw[e2,Ko (by simp;omega),L6,show x.zA.length-(k+1)=x.zA.length-1-k from by omega];rfl
 ·rw[Ld (by grind),Ld (by simp[eC1,eC2,gl];omega)]
end
def tlv(p:Int):Nat→Pcp
 |0=>[]
 |d+1=>⟨p,zeros d,xQ d⟩::tlv p d
theorem zGT{p:Int}:∀d,(tlv p d).length=d
 |0=>rfl
 |d+1=>by simp[tlv,zGT d]
theorem zEl{p:Int}:∀(d:Nat)(v:Vec),V (tlv p d) v↔Row p d v
 |0,v=>by
  constructor
  ·intro h
   obtain rfl:v=[]:=h;exact⟨rfl,fun i hi=>by omega⟩
  ·intro h
   have:=Kb h.1;subst this;exact rfl
 |d+1,v=>by
  cases v with
  |nil=>exact⟨fun h=>h.elim,fun h=>by have:=h.1;grind⟩
  |cons a v=>
   show((0≤a∧a<p)∧V (tlv p d) v)↔_;rw[zEl d v];constructor
   ·rintro⟨⟨h0,h1⟩,h2⟩
    refine⟨by simp[h2.1],fun i hi=>?_⟩;cases i with
    |zero=>grind
    |succ i=>have:=h2.2 i (by omega);grind
   ·intro h
    have h0:=h.2 0 (by omega);simp only[at0,H6]at h0;refine⟨⟨h0.1,by omega⟩,by have:=h.1;grind,fun i hi=>?_⟩;have:=h.2 (i+1) (by omega)
    grind
abbrev adv(p:Int)(D:Nat)(u v:List Int):List Int:=mkv D fun j=>(at0 u j+at0 v j)%p
theorem qE{p:Int}{D:Nat}{u v:List Int}(hp:0<p):Row p D (adv p D u v):=by refine⟨zU _ _,fun j hj=>?_⟩;rw[yC hj];have e1:=Kv (at0 u j+at0 v j) (show p≠0 by omega);have e2:=Ki (at0 u j+at0 v j) hp;omega
theorem zIo{p:Int}{D:Nat}{c:List Int}(hp:0<p):∀(k:Nat)(acc:List Int),Row p D acc→iter k (fun w=>adv p D w c) acc=mkv D fun j=>(at0 acc j+(k:Int)*at0 c j)%p
 |0,acc,ha=>by
  show acc=_
  conv=>lhs;rw[vC ha.1]
  refine yA fun j hj=>?_
  have:=ha.2 j hj;rw[Int.natCast_zero,Qt,Lu,K1 this.1 (by omega)]
 |k+1,acc,ha=>by
  show iter k (fun w=>adv p D w c) (adv p D acc c)=_;rw[zIo hp k _ (qE hp)];refine yA fun j hj=>?_
  grind[yC,K9,Jz]
theorem yAr{f:Nat→Int}{n:Nat}:S (n+1) f=f 0+S n fun i=>f (i+1):=by
 rw[Nat.add_comm,zGS 1 n];simp only[S]
 grind
theorem zGU{p:Int}{D:Nat}(hp:0<p):∀(cs:List Vec)(v acc:Vec),v.length=cs.length→(∀i,i<v.length→0≤at0 v i)→Row p D acc→img (adv p D) cs v acc=mkv D fun j=>(at0 acc j+S cs.length fun k=>at0 v k*ent cs k j)%p
 | [],v,acc,hl,_,ha=>by
  show acc=_
  conv=>lhs;rw[vC ha.1]
  refine yA fun j hj=>?_
  have:=ha.2 j hj;simp only[K0,S];rw[Lu,K1 this.1 (by omega)]
 |c::cs,[],acc,hl,_,_=>by simp at hl
 |c::cs,a::v,acc,hl,hv,ha=>by
  have h0:=hv 0 (by simp);simp only[at0,H6]at h0;have eI:Row p D (iter a.toNat (fun w=>adv p D w c) acc):=vG (S:=Row p D) (fun _ _=>qE hp) _ ha;show img (adv p D) cs v (iter a.toNat (fun w=>adv p D w c) acc)=_;rw[zGU hp cs v _ (by grind) (fun i hi=>by have:=hv (i+1) (by grind);grind) eI,zIo hp _ _ ha];refine yA fun j hj=>?_
  rw[yC hj,Jc,yAr,K9,Jz,←K9,Qb h0,Int.add_assoc];rfl
theorem zDM{α:Type}{S:α→Prop}{m m':α→α→α}(hm:∀a b,S a→S b→m a b=m' a b)(hc:∀a b,S a→S b→S (m' a b)):∀(cs:List α)(v:Vec)(acc:α),(∀c∈cs,S c)→S acc→img m cs v acc=img m' cs v acc
 | [],_,_,_,_=>by simp[img]
 |c::cs,[],_,_,_=>by simp[img]
 |c::cs,a::v,acc,h1,h2=>by
  have pu:=h1 c (by simp);have e:∀k acc,S acc→iter k (fun w=>m w c) acc=iter k (fun w=>m' w c) acc∧S (iter k (fun w=>m' w c) acc):=by
   intro k
   induction k with
   |zero=>intro acc ha;exact⟨rfl,ha⟩
   |succ k ih=>
    intro acc ha;show iter k (fun w=>m w c) (m acc c)=iter k (fun w=>m' w c) (m' acc c)∧_;rw[hm acc c ha pu];exact ih _ (hc _ _ ha pu)
  show img m cs v (iter a.toNat (fun w=>m w c) acc)=img m' cs v (iter a.toNat (fun w=>m' w c) acc);rw[(e _ _ h2).1];exact zDM hm hc cs v _ (by grind) (e _ _ h2).2
theorem zDN{d k j:Nat}(hk:k<d)(hj:j<d):ent (xQ d) k j=if j=k then 1 else 0:=by
 have e:(xQ d).getD k []=yZ d k:=by grind[xQ]
 rw[ent,e,zAD,yC hj]
theorem xC{p:Int}{D:Nat}(hp:0<p):Row p D (zeros D):=zIe hp
theorem qY{p:Int}(hp:2≤p):∀(d:Nat)(u v:Vec),Row p d u→Row p d v→mul (tlv p d) u v=adv p d u v
 |0,u,v,hu,_=>by rfl
 |d+1,u,v,hu,hv=>by
  have ih:=qY hp d;have mM:=(zEl (d+1) u).2 hu;have pC:=(zEl (d+1) v).2 hv;cases u with
  |nil=>exact mM.elim
  |cons a u=>
   cases v with
   |nil=>exact pC.elim
   |cons b v=>
    obtain⟨⟨a0,a1⟩,c8⟩:=mM;obtain⟨⟨b0,b1⟩,pZ⟩:=pC;have hu3:=(zEl d u).1 c8;have pB:=(zEl d v).1 pZ;change a<p at a1;change b<p at b1;have ep:∀w,Row p d w→sig (tlv p d) ⟨p,zeros d,xQ d⟩ w=w:=fun w hw=>by
     have ar:∀c∈xQ d,Row p d c:=fun c hc=>by obtain⟨k,hk,rfl⟩:=Ji.1 hc;rw[zAD];exact⟨zU _ _,by grind[yC]⟩
     unfold sig;rw[zGT,zDM (S:=Row p d) (m':=adv p d) (by omega) (fun _ _ _ _=>qE (by omega)) (xQ d) w _ ar (xC (by omega)),zGU (by omega) (xQ d) w _ (by rw[hw.1];simp[xQ]) (fun i hi=>(hw.2 i (by rw[←hw.1];exact hi)).1) (xC (by omega))]
     conv=>rhs;rw[vC hw.1]
     refine yA fun j hj=>?_
     have eS:(xQ d).length=d:=by simp[xQ]
     have:=hw.2 j hj;rw[eS,uM,Lh,zAR (k:=j) hj (fun k hk gg=>by rw[zDN hk hj,if_neg (Ne.symm gg),Lt]),zDN hj hj,if_pos rfl,Ln,K1 this.1 (by omega)]
    have ef:∀k,iter k (sig (tlv p d) ⟨p,zeros d,xQ d⟩) u=u:=by grind[zIl]
    show mul (⟨p,zeros d,xQ d⟩::tlv p d) (a::u) (b::v)=_;rw[yP,ef,ih u v hu3 pB];have hz:adv p d (zeros d) (adv p d u v)=adv p d u v:=by
     refine yA fun j hj=>?_
     rw[yC hj,uM,Lh,Jz]
    rw[ih _ _ (xC (by omega)) (qE (by omega)),hz];have eK:adv p (d+1) (a::u) (b::v)=(a+b)%p::adv p d u v:=by
     simp only[adv,mkv,Q7,Jt,Uu]
     congr 1
    rw[eK];split
    ·next g=>
     have g:a+b≥p:=g;have e:(a+b)%p=a+b-p:=by rw[show a+b=(a+b-p)+p from by omega,Uc,K1 (by omega) (by omega)];omega
     grind
    ·next g=>
     have g:¬a+b≥p:=g
     congr 1
     exact(K1 (by omega) (by omega)).symm
end Go.Pl

namespace Go.Pl
open Go Go.Ab Go.Wk Go.Pc
theorem zPH{α:Type}{m:α→α→α}:∀(c1:List α)(y:Vec)(c2:List α)(u:Vec)(acc:α),c1.length=y.length→img m (c1++c2) (y++u) acc=img m c2 u (img m c1 y acc)
 | [],[],_,_,_,_=>by rfl
 | [],_::_,_,_,_,h=>by simp at h
 |_::_,[],_,_,_,h=>by simp at h
 |c::c1,a::y,c2,u,acc,h=>zPH c1 y c2 u _ (by grind)
theorem zFo{α β:Type}{S:α→Prop}{m:α→α→α}{n:β→β→β}(φ:α→β)(hS:∀a b,S a→S b→S (m a b))(hm:∀a b,S a→S b→φ (m a b)=n (φ a) (φ b)):∀(cs:List α)(v:Vec)(a:α),(∀c∈cs,S c)→S a→φ (img m cs v a)=img n (cs.map φ) v (φ a)
 | [],v,a,_,_=>by rfl
 |_::_,[],_,_,_=>rfl
 |c::cs,t::v,a,hc,ha=>by
  have pu:=hc c (by simp);have e:∀k a,S a→φ (iter k (fun w=>m w c) a)=iter k (fun w=>n w (φ c)) (φ a)∧S (iter k (fun w=>m w c) a):=by
   intro k
   induction k with
   |zero=>intro a ha;exact⟨rfl,ha⟩
   |succ k ih=>
    intro a ha;have:=ih (m a c) (hS _ _ ha pu);rw[hm a c ha pu]at this;exact this
  show φ (img m cs v (iter t.toNat (fun w=>m w c) a))=img n (cs.map φ) v (iter t.toNat (fun w=>n w (φ c)) (φ a));rw[←(e _ a ha).1];exact zFo φ hS hm cs v _ (by grind) (e _ a ha).2
theorem kL{p:Int}{D:Nat}{r:List Int}(hr:Row p D r):xJ p D r (idM D)=r:=by
 conv=>rhs;rw[vC hr.1]
 refine yA fun j hj=>?_
 have:=hr.2 j hj;have e:∀l,l<D→ent (idM D) l j=if j=l then 1 else 0:=fun l hl=>by rw[ent,zDH hl,yC hj]
 rw[zAR (k:=j) hj (by grind),e j hj,if_pos rfl,Ln,qC this]
theorem zFp{p:Int}{D:Nat}{r:List Int}{A B:Mx}(hA:A.length=D):xJ p D (xJ p D r A) B=xJ p D r (PM p D A B):=by
 refine yA fun j hj=>?_
 have e1:S D (fun l=>at0 (xJ p D r A) l*ent B l j)%p=S D (fun l=>S D (fun i=>at0 r i*ent A i l)*ent B l j)%p:=zAA (by grind[xJ,yC,Jv,Jz]);have e2:S D (fun l=>at0 r l*ent (PM p D A B) l j)%p=S D (fun i=>at0 r i*S D (fun l=>ent A i l*ent B l j))%p:=zAA (by grind[zNP,Jv,Jz]);rw[e1,e2]
 congr 1
 have e3:S D (fun l=>S D (fun i=>at0 r i*ent A i l)*ent B l j)=S D (fun l=>S D (fun i=>at0 r i*ent A i l*ent B l j)):=xL (by grind[zMl]);rw[e3,zHV];refine xL fun i _=>?_
 rw[←zDq];exact xL (by grind)
theorem vO{p:Int}{D:Nat}{v:List Int}(hv:Row p D v):adv p D (zeros D) v=v:=by
 conv=>rhs;rw[vC hv.1]
 refine yA fun j hj=>?_
 rw[uM,Lh,qC (hv.2 j hj)]
theorem zBq{p:Int}{D:Nat}{v:List Int}(hv:Row p D v):adv p D v (zeros D)=v:=by
 conv=>rhs;rw[vC hv.1]
 refine yA fun j hj=>?_
 rw[uM,Lu,qC (hv.2 j hj)]
theorem zTm{p:Int}{D:Nat}{acc v:List Int}{A:Mx}(hl:A.length=D):(mkv D fun j=>(at0 acc j+S A.length fun k=>at0 v k*ent A k j)%p)=adv p D acc (xJ p D v A):=by grind[yA,xJ,yC,Qu]
theorem tJ{p:Int}{D:Nat}{u v:List Int}:adv p D u v=adv p D v u:=by grind
theorem zWG{p:Int}{D:Nat}{u v w:List Int}(hv:Row p D v)(hw:Row p D w):adv p D u v=adv p D u w↔v=w:=by
 constructor
 ·intro h
  rw[vC hv.1,vC hw.1];refine yA fun j hj=>?_
  have e:at0 (adv p D u v) j=at0 (adv p D u w) j:=by rw[h]
  rw[adv,adv,yC hj,yC hj]at e;have h1:=hv.2 j hj;have h2:=hw.2 j hj;have h3:=Q0 (at0 u j+at0 v j) (Jag p);have e4:(at0 u j+at0 v j-at0 u j)%p=(at0 u j+at0 w j-at0 u j)%p:=by rw[Up,e,←Up]
  rw[show at0 u j+at0 v j-at0 u j=at0 v j from by omega,show at0 u j+at0 w j-at0 u j=at0 w j from by omega,qC h1,qC h2]at e4;exact e4
 grind
section
variable {D:Nat}{x:SPr}{m:zC}{T:Mx} (h:Pres x) (hE:ExB x.zA.length D x m T) (hT:∀i,i<T.length→Row m.Prime D (T.getD i []))
 include h hE hT
theorem zAZ:∀(d k:Nat),x.zA.length≤k→k+d=x.zA.length+D→suf (exx D x m T) k=tlv m.Prime d
 |0,k,hk,hd=>by rw[vA (by grind[xM])];rfl
 |d+1,k,hk,hd=>by
  have hl:=xM h hE hT;rw[zY (by omega),zAZ d (k+1) (by omega) (by omega),tlv]
  congr 1
  have hP:(exx D x m T).zJ.getD k []=exP x.zA.length D x T k:=wA (by omega);have hC:(exx D x m T).zB.getD k []=exC x.zA.length D x m T k:=by
   show(gl (x.zA.length+D) (exC x.zA.length D x m T)).getD k []=_
   grind
  unfold lvl;rw[hP,hC,exP,exC,if_neg (by omega),if_neg (by omega),zC5 h hE hT hk (by omega),L6,show x.zA.length+D-(k+1)=d from by omega]
  congr 1
  rw[unC,xQ,gl,Uu,show x.zA.length+D-1-k=d from by omega];refine U4 fun j hj=>?_
  have hj:=Kq.1 hj;show(uE (x.zA.length+D) (k+1+j)).drop (k+1)=yZ d j;rw[uE,zIm,zAD,show x.zA.length+D-(k+1)=d from by omega];simp
theorem sK:∀(d k:Nat),k+d=x.zA.length→ ∀v,V (suf (exx D x m T) k) v↔ ∃y u,v=y++u∧V (suf x k) y∧Row m.Prime D u
 |0,k,hk,v=>by
  rw[zAZ h hE hT D k (by omega) (by omega),zEl,vA (x:=x) (k:=k) (by omega)];constructor
  ·intro g;exact⟨[],v,rfl,rfl,g⟩
  ·rintro⟨y,u,rfl,hy,hu⟩
   obtain rfl:y=[]:=hy;exact hu
 |d+1,k,hk,v=>by
  have hl:=xM h hE hT;have ih:=sK d (k+1) (by omega);rw[zY (x:=exx D x m T) (by omega),zY (x:=x) (by omega)];cases v with
  |nil=>
   refine⟨fun g=>g.elim,?_⟩
   rintro⟨y,u,e,hy,hu⟩
   cases y with
   |nil=>exact hy.elim
   |cons a y=>simp at e
  |cons a v=>
   show((0≤a∧a<(lvl (exx D x m T) k).o)∧V (suf (exx D x m T) (k+1)) v)↔_;rw[zCh h hE hT (by omega),ih v];constructor
   ·rintro⟨g,y,u,rfl,hy,hu⟩
    exact⟨a::y,u,rfl,⟨g,hy⟩,hu⟩
   ·rintro⟨y,u,e,hy,hu⟩
    cases y with
    |nil=>exact hy.elim
    |cons b y=>
     simp only[Kd,Ja0.injEq]at e;obtain⟨rfl,rfl⟩:=e;exact⟨hy.1,y,u,rfl,hy.2,hu⟩
theorem zFq:∀(d k:Nat),k+d=x.zA.length→ ∀y u r,V (suf x k) y→Row m.Prime D u→Row m.Prime D r→mul (suf (exx D x m T) k) (y++u) (zeros d++r)=y++adv m.Prime D u r
 |0,k,hk,y,u,r,hy,hu,hr=>by have hp:=hE.m.p.pos;rw[vA (x:=x) (k:=k) (by omega)]at hy;obtain rfl:y=[]:=hy;rw[zAZ h hE hT D k (by omega) (by omega)];exact qY (by omega) D u r hu hr
 |d+1,k,hk,y,u,r,hy,hu,hr=>by
  have hl:=xM h hE hT;rw[zY (x:=x) (by omega)]at hy;cases y with
  |nil=>exact hy.elim
  |cons a y=>
   obtain⟨⟨a0,a1⟩,hy⟩:=hy;change a<at0 x.zA k at a1;rw[zY (x:=exx D x m T) (by omega)];show mul _ (a::(y++u)) (0::(zeros d++r))=_;rw[yP,zCh h hE hT (by omega),if_neg (by omega)];show(a+0)::mul _ (y++u) (zeros d++r)=_;rw[zFq d (k+1) (by omega) y u r hy hu hr,Lu];rfl
theorem vS{k:Nat}(hk:k≤x.zA.length+D):Pc.Ok (suf (exx D x m T) k):=(zFn h hE hT).okAt (by grind[xM])
theorem zOf{d k:Nat}(hk:k+d=x.zA.length):∀(rs:List Vec)(v:Vec)(y u:Vec),(∀r∈rs,Row m.Prime D r)→V (suf x k) y→Row m.Prime D u→img (mul (suf (exx D x m T) k)) (rs.map fun r=>zeros d++r) v (y++u)=y++img (adv m.Prime D) rs v u
 | [],v,y,u,_,_,_=>by rfl
 |_::_,[],_,_,_,_,_=>rfl
 |c::rs,t::v,y,u,hr,hy,hu=>by
  have hp:=hE.m.p.pos;have hc:=hr c (by simp);have e:∀q u,Row m.Prime D u→iter q (fun w=>mul (suf (exx D x m T) k) w (zeros d++c)) (y++u)=y++iter q (fun w=>adv m.Prime D w c) u:=by
   intro q
   induction q with
   |zero=>intro u _;rfl
   |succ q ih=>
    intro u hu;show iter q _ (mul _ (y++u) (zeros d++c))=_;rw[zFq h hE hT d k hk y u c hy hu hc,ih _ (qE (by omega))];rfl
  show img _ (rs.map fun r=>zeros d++r) v (iter t.toNat (fun w=>mul (suf (exx D x m T) k) w (zeros d++c)) (y++u))=_;rw[e _ _ hu,zOf hk rs v y _ (by grind) hy (vG (S:=Row m.Prime D) (fun _ _=>qE (by omega)) _ hu)];rfl
theorem yAs{k:Nat}(hk:k<x.zA.length):(gl D fun j=>(m.zG.getD k []).getD j [])=m.zG.getD k []:=by
 have _:=h;have _:=hT;have hl:=(hE.m.mat k hk).1;apply Kl
 grind
def sgG(D:Nat)(x:SPr)(m:zC)(T:Mx)(k:Nat)(y:Vec):Vec:=img (mul (suf (exx D x m T) (k+1))) (eC1 x T k) y (zeros (suf (exx D x m T) (k+1)).length)
theorem qZ{k:Nat}:(eC1 x T k).length=x.zA.length-1-k:=by have _:=h;have _:=hE;have _:=hT;grind[eC1]
theorem zPI{k:Nat}(hk:k<x.zA.length):∀c∈eC1 x T k,V (suf (exx D x m T) (k+1)) c:=by intro c hc;have ok:=vS h hE hT (k:=k) (by omega);rw[zY (by grind[xM])]at ok;exact ok.2.2.2.1 c (by grind[zC6])
theorem zBL{k:Nat}(hk:k≤x.zA.length):zeros (suf (exx D x m T) k).length=zeros (x.zA.length-k)++zeros D:=by grind[yH,xM,zeros,Jl]
theorem zIp{k:Nat}(hk:k<x.zA.length){y:Vec}:V (suf (exx D x m T) (k+1)) (sgG D x m T k y):=by have ok:=vS h hE hT (k:=k+1) (by omega);exact kH (yV ok) _ _ (zPI h hE hT hk) (xU ok)
theorem zC7{k:Nat}(hk:k<x.zA.length){y u:Vec}(hy:V (suf x (k+1)) y)(hu:Row m.Prime D u):
  sig (suf (exx D x m T) (k+1)) (lvl (exx D x m T) k) (y++u)=(sgG D x m T k y).take (x.zA.length-(k+1))++adv m.Prime D ((sgG D x m T k y).drop (x.zA.length-(k+1))) (xJ m.Prime D u (m.zG.getD k [])):=by
 have hp:=hE.m.p.pos;have hA:=hE.m.mat k hk;have e7:=wR h (by omega) hy;unfold sig;rw[zC6 h hE hT hk,zPH _ _ _ _ _ (by grind[qZ])];show img _ (eC2 x m D k) u (sgG D x m T k y)=_;obtain⟨y1,u1,e,eY,fO⟩:=(sK h hE hT (x.zA.length-(k+1)) (k+1) (by omega) _).1 (zIp h hE hT hk (y:=y));have gL:=wR h (by omega) eY;rw[e,eC2,yAs h hE hT hk,show x.zA.length-1-k=x.zA.length-(k+1)from by omega,zOf h hE hT (by omega) _ _ _ _ (fun r hr=>?_) eY fO,zGU (by omega) _ _ _ (by rw[hA.1,hu.1]) (fun i hi=>(hu.2 i (by rw[←hu.1];exact hi)).1) fO,zTm hA.1,Jp gL,Jx gL];obtain⟨j,hj,rfl⟩:=K6.1 hr;have cY:=hA.1;have:=hA.2 j (by omega)
 grind
theorem zGV{k:Nat}(hk:k<x.zA.length){u:Vec}(hu:Row m.Prime D u):
  sig (suf (exx D x m T) (k+1)) (lvl (exx D x m T) k) (zeros (x.zA.length-(k+1))++u)=zeros (x.zA.length-(k+1))++xJ m.Prime D u (m.zG.getD k []):=by
 have hp:=hE.m.p.pos;have ok:=h.okAt (k:=k+1) (by omega);have hz:=xU ok;rw[yH]at hz;have e:sgG D x m T k (zeros (x.zA.length-(k+1)))=zeros (x.zA.length-(k+1))++zeros D:=by grind[sgG,qB,zBL]
 rw[zC7 h hE hT hk hz hu,e,Jp (zV _),Jx (zV _),vO (wU (by omega))]
theorem zIq{k:Nat}(hk:k<x.zA.length):∀(q:Nat){u:Vec},Row m.Prime D u→
  iter q (sig (suf (exx D x m T) (k+1)) (lvl (exx D x m T) k)) (zeros (x.zA.length-(k+1))++u)=zeros (x.zA.length-(k+1))++iter q (fun u=>xJ m.Prime D u (m.zG.getD k [])) u
 |0,u,_=>rfl
 |q+1,u,hu=>by have hp:=hE.m.p.pos;show iter q _ (sig _ _ _)=_;rw[zGV h hE hT hk hu,zIq hk q (wU (by omega))];rfl
end
end Go.Pl

namespace Go.Pl
open Go Go.Ab Go.Wk Go.Pc
theorem zGd{p:Int}{D:Nat}{A:Mx}(hA:Mat p D A)(hp:2≤p){r:List Int}(hr:Row p D r):∀q,iter q (fun u=>xJ p D u A) r=xJ p D r (pw (PM p D) (idM D) A q)
 |0=>(kL hr).symm
 |q+1=>by
  have hm:Mat p D (pw (PM p D) (idM D) A q):=vG (S:=Mat p D) (fun _ hB=>zDr (by omega) hB.1) q (sG hp);unfold pw at*
  rw[wW,wW,zGd hA hp hr q];exact zFp hm.1
theorem zTn{p:Int}{D:Nat}(hp:0<p){r:List Int}:iter p.toNat (fun w=>adv p D w r) (zeros D)=zeros D:=by
 rw[zIo hp _ _ (xC hp)];rw[show zeros D=mkv D fun _=>0 from vX D];refine yA fun j hj=>?_
 rw[yC hj,Qb (by omega),Lh,Int.mul_emod_right]
theorem zBr{p:Int}{D:Nat}{A:Mx}:xJ p D (zeros D) A=zeros D:=by
 rw[show zeros D=mkv D fun _=>0 from vX D];refine yA fun j hj=>?_
 rw[xL (g:=fun _=>0) fun l hl=>by rw[yC hl,Qt],qK,Int.zero_emod]
theorem zQT{p:Int}{D q:Nat}{A:Mx}(hq:q<D)(hA:Mat p D A):xJ p D (yZ D q) A=A.getD q []:=by
 have hr:=hA.2 q hq
 conv=>rhs;rw[vC hr.1]
 refine yA fun j hj=>?_
 rw[zAD,zAR (k:=q) hq (fun i hi gg=>by rw[yC hi,if_neg gg,Qt]),yC hq,if_pos rfl,Ja3,qC (hr.2 j hj)]
theorem sC{p:Int}{D q:Nat}(hp:2≤p):Row p D (yZ D q):=by rw[zAD];exact⟨zU _ _,by grind[yC]⟩
theorem zM6{N D q:Nat}(hq:q<D):yZ (N+D) (N+q)=zeros N++yZ D q:=by
 rw[zAX (by omega),zAX hq,←Jg]
 grind[zeros,Jl]
def aM(m:zC)(D k:Nat)(v:Vec):Mx:=img (PM m.Prime D) (m.zG.drop k) v (idM D)
theorem zTo{p:Int}{D:Nat}(hp:2≤p):Mon (Mat p D) (PM p D) (idM D):=
 ⟨fun ha _=>zDr (by omega) ha.1,sG (by omega),fun ha hb _=>zMm ha.1 hb.1,fun ha=>zCy ha,fun ha=>zDs ha⟩
section
variable {D:Nat}{x:SPr}{m:zC}{T:Mx} (h:Pres x) (hE:ExB x.zA.length D x m T) (hT:∀i,i<T.length→Row m.Prime D (T.getD i []))
 include h hE hT
theorem zTp{k:Nat}(hk:k<x.zA.length):(eC1 x T k).map (·.take (x.zA.length-(k+1)))=(lvl x k).cs:=by
 have _:=hE;have _:=hT;have gA:=zBe h.w hk;apply Kl;intro j
 by_cases g:j<x.zA.length-(k+1)
 ·obtain⟨c,_,_,c3,c4⟩:=zFb h hk g
  have hl:=wR h (by omega) c3;have e1:((eC1 x T k).map (·.take (x.zA.length-(k+1))))[j]? =dJ (((lvl x k).cs.getD j []++T.getD (base x.zA.length k+j) []).take (x.zA.length-(k+1))):=by simp[eC1,gl,show j<x.zA.length-1-k by omega]
  grind
 ·rw[Ld (by simp[eC1,gl];omega),Ld (by omega)]
theorem zM7{k:Nat}(hk:k<x.zA.length):m.zG.drop k=m.zG.getD k []::m.zG.drop (k+1):=by
 have _:=h;have _:=hT;have hl:=hE.m.len
 grind[Gs]
theorem zWH{k:Nat}(hk:k<x.zA.length){b:Int}{y:Vec}:aM m D k (b::y)=PM m.Prime D (pw (PM m.Prime D) (idM D) (m.zG.getD k []) b.toNat) (aM m D (k+1) y):=by
 have M:=zTo hE.m.p.pos.1 (D:=D);unfold aM;rw[zM7 h hE hT hk];refine qS M (hE.m.mat k hk) fun c hc=>?_
 obtain⟨i,hi,rfl⟩:=K6.1 (List.mem_of_mem_drop hc);have:=hE.m.mat i (by rw[←hE.m.len];exact hi)
 grind
theorem pwM{k q:Nat}(hk:k<x.zA.length):Mat m.Prime D (pw (PM m.Prime D) (idM D) (m.zG.getD k []) q):=by have _:=h;have _:=hT;have _:=hk;have hp:=hE.m.p.pos;exact vG (S:=Mat m.Prime D) (fun _ hB=>zDr (by omega) hB.1) q (sG (by omega))
theorem zPJ:∀(d k:Nat),k+d=x.zA.length→ ∀r y v,Row m.Prime D r→V (suf x k) y→Row m.Prime D v→mul (suf (exx D x m T) k) (zeros d++r) (y++v)=y++adv m.Prime D (xJ m.Prime D r (aM m D k y)) v
 |0,k,hk,r,y,v,hr,hy,hv=>by
  have hp:=hE.m.p.pos;rw[vA (x:=x) (k:=k) (by omega)]at hy;obtain rfl:y=[]:=hy;rw[zAZ h hE hT D k (by omega) (by omega)];have e:aM m D k []=idM D:=by unfold aM;cases m.zG.drop k<;>rfl
  rw[e,kL hr];exact qY (by omega) D r v hr hv
 |d+1,k,hk,r,y,v,hr,hy,hv=>by
  have hl:=xM h hE hT;have hp:=hE.m.p.pos;have hA:=hE.m.mat k (by omega);rw[zY (x:=x) (by omega)]at hy;cases y with
  |nil=>exact hy.elim
  |cons b y=>
   obtain⟨⟨b0,b1⟩,hy⟩:=hy;change b<at0 x.zA k at b1;rw[zY (x:=exx D x m T) (by omega)];show mul _ (0::(zeros d++r)) (b::(y++v))=_;have e:=zIq h hE hT (k:=k) (by omega) b.toNat hr;rw[show x.zA.length-(k+1)=d from by omega]at e;rw[yP,zCh h hE hT (by omega),if_neg (by omega),e,zGd hA (by omega) hr,zPJ d (k+1) (by omega) _ y v (wU (by omega)) hy hv,Lh,zWH h hE hT (by omega),←zFp (pwM h hE hT (by omega)).1];rfl
theorem zM8{k:Nat}(hk:k<x.zA.length)(ih:∀a b,V (suf (exx D x m T) (k+1)) a→V (suf (exx D x m T) (k+1)) b→(mul (suf (exx D x m T) (k+1)) a b).take (x.zA.length-(k+1))=mul (suf x (k+1)) (a.take (x.zA.length-(k+1))) (b.take (x.zA.length-(k+1)))){v:Vec}(hv:V (suf (exx D x m T) (k+1)) v):
  (sig (suf (exx D x m T) (k+1)) (lvl (exx D x m T) k) v).take (x.zA.length-(k+1))=sig (suf x (k+1)) (lvl x k) (v.take (x.zA.length-(k+1))):=by
 have ok:=vS h hE hT (k:=k+1) (by omega);obtain⟨y,u,rfl,hy,hu⟩:=(sK h hE hT (x.zA.length-(k+1)) (k+1) (by omega) _).1 hv;have e7:=wR h (by omega) hy;obtain⟨y1,u1,e,eY,fO⟩:=(sK h hE hT (x.zA.length-(k+1)) (k+1) (by omega) _).1 (zIp h hE hT hk (y:=y));have gL:=wR h (by omega) eY;rw[zC7 h hE hT hk hy hu,Jp (by grind),Jp e7];unfold sgG sig;rw[zFo (S:=V (suf (exx D x m T) (k+1))) (n:=mul (suf x (k+1))) (·.take (x.zA.length-(k+1))) (fun a b=>yV ok) ih _ _ _ (zPI h hE hT hk) (xU ok),zTp h hE hT hk,zBL h hE hT (by omega),Jp (zV _),yH]
theorem zKD:∀(d k:Nat),k+d=x.zA.length→ ∀a b,V (suf (exx D x m T) k) a→V (suf (exx D x m T) k) b→(mul (suf (exx D x m T) k) a b).take d=mul (suf x k) (a.take d) (b.take d)
 |0,k,hk,a,b,_,_=>by rw[vA (x:=x) (by omega),Km];rfl
 |d+1,k,hk,a,b,ha,hb=>by
  have hl:=xM h hE hT;have ih:=zKD d (k+1) (by omega);have hd:d=x.zA.length-(k+1):=by omega
  have ok:=vS h hE hT (k:=k+1) (by omega);have ok0:=vS h hE hT (k:=k) (by omega);rw[hd]at ih;have hs:=fun v hv=>zM8 h hE hT (k:=k) (by omega) ih (v:=v) hv
  rw[zY (x:=exx D x m T) (by omega)]at ha hb ok0 ⊢
  rw[zY (x:=x) (by omega)];cases a with
  |nil=>rfl
  |cons a u=>
  cases b with
  |nil=>rfl
  |cons b v=>
   have ef:∀q u,V (suf (exx D x m T) (k+1)) u→(iter q (sig (suf (exx D x m T) (k+1)) (lvl (exx D x m T) k)) u).take d=iter q (sig (suf x (k+1)) (lvl x k)) (u.take d)∧V (suf (exx D x m T) (k+1)) (iter q (sig (suf (exx D x m T) (k+1)) (lvl (exx D x m T) k)) u):=by
    intro q
    induction q with
    |zero=>intro u hu;exact⟨rfl,hu⟩
    |succ q ihq=>
     intro u hu;have:=ihq _ (zDg ok0 hu);rw[hd,hs u hu]at this;rw[hd];exact this
   obtain⟨bS,fx⟩:=ef b.toNat u ha.2;have hm:=yV ok fx hb.2;rw[yP,L5,L5,yP,zCh h hE hT (by omega),show(lvl x k).o=at0 x.zA k from rfl];have e1:=ih _ _ fx hb.2;rw[←hd,bS]at e1;split
   ·rw[L5]
    have e2:=ih _ _ ok0.2.1 hm;rw[←hd,e1]at e2;rw[e2]
    congr 2
    have ht:=(h.tl k (by omega)).1;have hw:=kU ht (by omega);have hwl:(lvl x k).w.length=x.zA.length-(k+1):=wR h (by omega) hw;rw[zIn h hE hT (by omega),Jp (by omega)]
   grind
end
end Go.Pl

namespace Go.Pl
open Go Go.Ab Go.Wk Go.Pc
theorem zQU{p:Int}{d:Nat}(hp:2≤p):∀c∈xQ d,Row p d c:=fun c hc=>by obtain⟨k,_,rfl⟩:=Ji.1 hc;exact sC hp
theorem zWI{p:Int}(hp:2≤p){d:Nat}{w:Vec}(hw:Row p d w):sig (tlv p d) ⟨p,zeros d,xQ d⟩ w=w:=by
 unfold sig;rw[zGT,zDM (S:=Row p d) (m':=adv p d) (by grind[qY]) (fun _ _ _ _=>qE (by omega)) (xQ d) w _ (zQU hp) (xC (by omega)),zGU (by omega) (xQ d) w _ (by rw[hw.1];simp[xQ]) (fun i hi=>(hw.2 i (by rw[←hw.1];exact hi)).1) (xC (by omega))]
 conv=>rhs;rw[vC hw.1]
 refine yA fun j hj=>?_
 have eS:(xQ d).length=d:=by simp[xQ]
 rw[eS,uM,Lh,zAR (k:=j) hj (fun k hk gg=>by rw[zDN hk hj,if_neg (Ne.symm gg),Lt]),zDN hj hj,if_pos rfl,Ln,qC (hw.2 j hj)]
structure LCn (x e:SPr) (k:Nat):Prop where
 c1:∀j,k+1≤j→j<x.zA.length→pw (mul (suf e (k+1))) (zeros (suf e (k+1)).length) ((lvl e k).cs.getD (j-(k+1)) []) (at0 e.zA j).toNat=sig (suf e (k+1)) (lvl e k) ((e.zJ.getD j []).drop (k+1))
 c2:∀i,k+1≤i→i<x.zA.length→ ∀j,i+1≤j→j<x.zA.length→
  mul (suf e (k+1)) ((lvl e k).cs.getD (j-(k+1)) []) ((lvl e k).cs.getD (i-(k+1)) [])=mul (suf e (k+1)) ((lvl e k).cs.getD (i-(k+1)) []) (sig (suf e (k+1)) (lvl e k) (((e.zB.getD i []).getD (j-(i+1)) []).drop (k+1)))
 c3:sig (suf e (k+1)) (lvl e k) (lvl e k).w=(lvl e k).w
 c4:∀j,k+1≤j→j<x.zA.length→mul (suf e (k+1)) (lvl e k).w (iter (lvl e k).o.toNat (sig (suf e (k+1)) (lvl e k)) (yZ (e.zA.length-(k+1)) (j-(k+1))))=mul (suf e (k+1)) (yZ (e.zA.length-(k+1)) (j-(k+1))) (lvl e k).w
section
variable {D:Nat}{x:SPr}{m:zC}{T:Mx} (h:Pres x) (hE:ExB x.zA.length D x m T) (hT:∀i,i<T.length→Row m.Prime D (T.getD i []))
 include h hE hT
theorem zTq{k j:Nat}(hk:k<x.zA.length)(hj:x.zA.length≤j)(h2:j<x.zA.length+D):(lvl (exx D x m T) k).cs.getD (j-(k+1)) []=zeros (x.zA.length-(k+1))++(m.zG.getD k []).getD (j-x.zA.length) []:=by
 rw[zC6 h hE hT hk,J3,Je (by grind[qZ]),qZ h hE hT,eC2]
 grind
theorem zIr{k j:Nat}(hk:k<x.zA.length)(hj:k+1≤j)(h2:j<x.zA.length):(lvl (exx D x m T) k).cs.getD (j-(k+1)) []=(lvl x k).cs.getD (j-(k+1)) []++T.getD (base x.zA.length k+(j-(k+1))) []:=by
 rw[zC6 h hE hT hk,J3,K3 (by grind[qZ]),eC1]
 grind
theorem zEm{i j:Nat}(hi:i<j)(hj:j<x.zA.length):Row m.Prime D (T.getD (base x.zA.length i+(j-(i+1))) []):=by have _:=h;have hn:=hE.hn;have hb:=qD x.zA.length (by omega) i (by omega);exact hT _ (by rw[hE.t];omega)
theorem zC8{i:Nat}(hi:i<x.zA.length):Row m.Prime D (T.getD i []):=by have _:=h;have hn:=hE.hn;have hb:=xW x.zA.length (by omega);exact hT _ (by rw[hE.t];omega)
theorem zE6{k j:Nat}(hj:k≤j)(h2:j<x.zA.length):((exx D x m T).zJ.getD j []).drop (k+1)=(x.zJ.getD j []).drop (k+1)++T.getD j []:=by have t1:=(h.tl j h2).1.1.1;have _:=hE;have _:=hT;have hP:(exx D x m T).zJ.getD j []=exP x.zA.length D x T j:=wA (by omega);rw[hP,exP,if_pos h2,Ko (by omega)]
theorem yAt{k j:Nat}(hk:k<x.zA.length)(hj:x.zA.length≤j)(h2:j<x.zA.length+D):((exx D x m T).zJ.getD j []).drop (k+1)=zeros (x.zA.length-(k+1))++zeros D:=by
 have _:=h;have _:=hE;have _:=hT;have hP:(exx D x m T).zJ.getD j []=exP x.zA.length D x T j:=wA (by omega);rw[hP,exP,if_neg (by omega),L6]
 grind[zeros,Jl]
theorem zIs{i:Nat}(hi:i<x.zA.length+D):(exx D x m T).zB.getD i []=exC x.zA.length D x m T i:=by
 have _:=h;have _:=hE;have _:=hT;show(gl (x.zA.length+D) (exC x.zA.length D x m T)).getD i []=_
 grind
theorem zGe{k i j:Nat}(hk:k≤i)(hi:i<j)(hj:j<x.zA.length):(((exx D x m T).zB.getD i []).getD (j-(i+1)) []).drop (k+1)=((x.zB.getD i []).getD (j-(i+1)) []).drop (k+1)++T.getD (base x.zA.length i+(j-(i+1))) []:=by obtain⟨_,t2,t3⟩:=h.tl i (by omega);have t:=(t3 (j-(i+1)) (by omega)).1.1;rw[zIs h hE hT (by omega),exC,if_pos (by omega),wA (by omega),exF,if_pos (by omega),Ko (by omega)]
theorem yAu{k i j:Nat}(hk:k<x.zA.length)(hi:i<x.zA.length)(hj:x.zA.length≤j)(h2:j<x.zA.length+D):(((exx D x m T).zB.getD i []).getD (j-(i+1)) []).drop (k+1)=zeros (x.zA.length-(k+1))++(m.zG.getD i []).getD (j-x.zA.length) []:=by rw[zIs h hE hT (by omega),exC,if_pos (by omega),wA (by omega),exF,if_neg (by omega),Ko (by simp;omega),L6,show j-(i+1)-(x.zA.length-1-i)=j-x.zA.length from by omega];rfl
theorem yAv{k i j:Nat}(hk:k<x.zA.length)(hi:x.zA.length≤i)(hj:i<j)(h2:j<x.zA.length+D):(((exx D x m T).zB.getD i []).getD (j-(i+1)) []).drop (k+1)=zeros (x.zA.length-(k+1))++yZ D (j-x.zA.length):=by
 rw[zIs h hE hT (by omega),exC,if_neg (by omega),unC,wA (by omega),uE,zIm,←zM6 (by omega),zAD]
 grind
theorem zWJ(hr:zCe x m D){k:Nat}(hk:k<x.zA.length):pw (PM m.Prime D) (idM D) (m.zG.getD k []) (at0 x.zA k).toNat=aM m D (k+1) (lvl x k).w∧
  ∀i,k<i→i<x.zA.length→PM m.Prime D (m.zG.getD i []) (m.zG.getD k [])=PM m.Prime D (m.zG.getD k []) (aM m D (k+1) ((lvl x k).cs.getD (i-(k+1)) [])):=by
 have R:=zPG h hE.m hr (x.zA.length-k) k (by omega);rw[zY hk,zM7 h hE hT hk]at R;obtain⟨r1,r2,_⟩:=R;refine⟨r1,fun i h1 h2=>?_⟩;have gA:=zBe h.w hk;have hl:=hE.m.len;refine r2 (i-(k+1)) _ _ ?_ ?_
 all_goals grind
theorem zv{k:Nat}(hk:k≤x.zA.length):V (suf x k) (zeros (x.zA.length-k)):=by
 have _:=hE;have _:=hT;have:=xU (h.okAt hk)
 grind[yH]
theorem zTr(hr:zCe x m D){k:Nat}(hk:k<x.zA.length)(hc:LCn x (exx D x m T) k):LC (exx D x m T) k:=by
 have hp:=hE.m.p.pos;have hl:=xM h hE hT;have hA:=hE.m.mat k hk;obtain⟨r1,r2⟩:=zWJ h hE hT hr hk;have hz:=zv h hE hT (k:=k+1) (by omega);have tg:Row m.Prime D (zeros D):=xC (by omega);have hw:=(yAi h hk).2;refine⟨fun j h1 h2=>?_,fun i h1 h2 j h3 h4=>?_,hc.c3,fun j h1 h2=>?_⟩
 ·rw[hl]at h2
  rcases Jn j x.zA.length with g|g
  ·exact hc.c1 j h1 g
  ·have hq:=hA.2 (j-x.zA.length) (by omega)
   rw[zTq h hE hT hk g h2,yAt h hE hT hk g h2,zGV h hE hT hk tg,zBr,zC5 h hE hT g h2,zBL h hE hT (by omega)];have e:=zOf h hE hT (d:=x.zA.length-(k+1)) (k:=k+1) (by omega) [(m.zG.getD k []).getD (j-x.zA.length) []] [m.Prime] _ _ (by grind) hz tg;have e2:iter m.Prime.toNat (fun w=>adv m.Prime D w ((m.zG.getD k []).getD (j-x.zA.length) [])) (zeros D)=zeros D:=zTn (by omega);unfold pw;refine e.trans ?_;show zeros _++iter m.Prime.toNat (fun w=>adv m.Prime D w ((m.zG.getD k []).getD (j-x.zA.length) [])) (zeros D)=_;rw[e2]
 ·rw[hl]at h4
  rcases Jn j x.zA.length with g|g
  ·exact hc.c2 i h1 (by omega) j h3 g
  ·have hq:=hA.2 (j-x.zA.length) (by omega)
   rw[zTq h hE hT hk g h4];rcases Jn i x.zA.length with gi|gi
   ·have hAi:=hE.m.mat i gi
    have tx:=hAi.2 (j-x.zA.length) (by omega);have cV:=(zA8 h hk h1 gi).2.2;have ht:=zEm h hE hT (i:=k) (j:=i) (by omega) gi;rw[zIr h hE hT hk h1 gi,yAu h hE hT hk gi g h4,zGV h hE hT hk tx,zPJ h hE hT _ (k+1) (by omega) _ _ _ hq cV ht,zFq h hE hT _ (k+1) (by omega) _ _ _ cV ht (wU (by omega)),tJ]
    congr 2
    rw[←zCx (by rw[hA.1];omega),←zCx (by rw[hAi.1];omega),r2 i (by omega) gi]
   ·have tx:=hA.2 (i-x.zA.length) (by omega)
    rw[zTq h hE hT hk gi (by omega),yAv h hE hT hk gi (by omega) h4,zGV h hE hT hk (sC (by omega)),zQT (by omega) hA,zFq h hE hT _ (k+1) (by omega) _ _ _ hz hq tx,zFq h hE hT _ (k+1) (by omega) _ _ _ hz tx hq,tJ]
 ·rw[hl]at h2 ⊢
  rcases Jn j x.zA.length with g|g
  ·have:=hc.c4 j h1 g
   grind
  ·have ht:=zC8 h hE hT hk
   have hu:Row m.Prime D (yZ D (j-x.zA.length)):=sC (by omega);rw[show x.zA.length+D-(k+1)=x.zA.length-(k+1)+D from by omega,show j-(k+1)=x.zA.length-(k+1)+(j-x.zA.length)from by omega,zM6 (by omega),zCh h hE hT hk,zIq h hE hT hk _ hu,zIn h hE hT hk,zGd hA (by omega) hu,r1,zPJ h hE hT _ (k+1) (by omega) _ _ _ hu hw ht,zFq h hE hT _ (k+1) (by omega) _ _ _ hw ht (wU (by omega)),tJ]
theorem yAw{k:Nat}(hk:x.zA.length≤k)(h2:k<x.zA.length+D):LC (exx D x m T) k:=by
 have hp:=hE.m.p.pos;have hl:=xM h hE hT;have hs:=zAZ h hE hT (x.zA.length+D-(k+1)) (k+1) (by omega) (by omega);have hL:=zAZ h hE hT (x.zA.length+D-(k+1)+1) k (by omega) (by omega);rw[zY (by omega),hs,tlv]at hL;have mg:lvl (exx D x m T) k=⟨m.Prime,zeros (x.zA.length+D-(k+1)),xQ (x.zA.length+D-(k+1))⟩:=(Ja0.inj hL).1
 generalize hd:x.zA.length+D-(k+1)=d at*
 have ep:∀w,Row m.Prime d w→sig (tlv m.Prime d) ⟨m.Prime,zeros d,xQ d⟩ w=w:=by grind[zWI]
 have mI:Row m.Prime d (zeros d):=xC (by omega);have aw:∀j,(xQ d).getD j []=if j<d then yZ d j else[]:=fun j=>by
  by_cases g:j<d
  ·rw[if_pos g,zHP g]
  ·rw[if_neg g,J3,Ld (by grind[xQ])];rfl
 refine⟨fun j h1 h3=>?_,fun i h1 h3 j h4 h5=>?_,?_,fun j h1 h3=>?_⟩
 ·rw[hl]at h3
  have hP:(exx D x m T).zJ.getD j []=exP x.zA.length D x T j:=wA (by omega);rw[hs,mg,zC5 h hE hT (by omega) h3,hP,exP,if_neg (by omega),L6,hd];show pw (mul (tlv m.Prime d)) (zeros (tlv m.Prime d).length) ((xQ d).getD (j-(k+1)) []) m.Prime.toNat=sig (tlv m.Prime d) ⟨m.Prime,zeros d,xQ d⟩ (zeros d);rw[ep _ mI,aw,if_pos (by omega),zGT];have e:=zDM (S:=Row m.Prime d) (m':=adv m.Prime d) (fun a b ha hb=>qY (by omega) d a b ha hb) (fun _ _ _ _=>qE (by omega)) [yZ d (j-(k+1))] [m.Prime] (zeros d) (by grind[sC]) mI;exact e.trans (zTn (by omega))
 ·rw[hl]at h3 h5
  rw[hs,mg,zIs h hE hT h3,exC,if_neg (by omega),unC,wA (by omega),uE,zIm,hd];have e:(mkv d fun q=>if k+1+q=i+1+(j-(i+1))then(1:Int)else 0)=yZ d (j-(k+1)):=by
   rw[zAD]
   grind
  rw[e,ep _ (sC (by omega))];show mul (tlv m.Prime d) ((xQ d).getD (j-(k+1)) []) ((xQ d).getD (i-(k+1)) [])=mul (tlv m.Prime d) ((xQ d).getD (i-(k+1)) []) (yZ d (j-(k+1)));rw[aw,aw,if_pos (by omega),if_pos (by omega),qY (by omega) d _ _ (sC (by omega)) (sC (by omega)),qY (by omega) d _ _ (sC (by omega)) (sC (by omega)),tJ]
 ·grind
 ·rw[hl]at h3 ⊢
  have hu:Row m.Prime d (yZ d (j-(k+1))):=sC (by omega);rw[hs,mg,hd,zIl (ep _ hu),qY (by omega) d _ _ mI hu,qY (by omega) d _ _ hu mI,tJ]
theorem zIt:∀(d k:Nat),x.zA.length≤k→k+d=x.zA.length+D→xK (suf (exx D x m T) k)
 |0,k,hk,hd=>by rw[vA (by grind[xM])];simp only[xK]
 |d+1,k,hk,hd=>(zA9 (zFn h hE hT) (by rw[xM h hE hT];omega)).2 ⟨zIt d (k+1) (by omega) (by omega),by grind[yAw]⟩
theorem zKE(hr:zCe x m D):xK (suf (exx D x m T) 0)↔ ∀k,k<x.zA.length→LCn x (exx D x m T) k:=by
 have hl:=xM h hE hT;have key:∀(d k:Nat),k+d=x.zA.length→(xK (suf (exx D x m T) k)↔ ∀i,k≤i→i<x.zA.length→LCn x (exx D x m T) i):=by
  intro d
  induction d with
  |zero=>grind[zIt]
  |succ d ih=>
   intro k hk;rw[zA9 (zFn h hE hT) (by omega),ih (k+1) (by omega)];constructor
   ·rintro⟨g1,g2⟩ i h1 h2
    rcases Jn k i with g|g
    ·grind
    ·obtain rfl:i=k:=by omega
     exact⟨fun j a b=>g2.c1 j a (by omega),fun i a b j c d=>g2.c2 i a (by omega) j c (by omega),g2.c3,fun j a b=>g2.c4 j a (by omega)⟩
   grind[zTr]
 simp_all
end
end Go.Pl

namespace Go.Pl
open Go Go.Ab Go.Wk Go.Pc
def prE(x:SPr)(k:Nat)(w:Vec):zI:=⟨fv k (w.take (x.zA.length-k)),w.drop (x.zA.length-k)⟩
theorem jN{x:SPr}{k:Nat}{y u:Vec}(hy:y.length=x.zA.length-k):prE x k (y++u)=⟨fv k y,u⟩:=by grind[prE]
theorem zC9{α α' β:Type}{body:α×α'×Int→Option ((α×α'×Int)⊕(α×α'))}{S:β→Prop}(e1:β→α)(e2:β→α')(g:β→β)(n:Int)(hn:0≤n)(hS:∀a,S a→S (g a))
  (h:∀a(i:Nat),S a→(i:Int)<n→body (e1 a,e2 a,(i:Int))=dJ (.inl (e1 (g a),e2 (g a),((i+1:Nat):Int))))(he:∀a,S a→body (e1 a,e2 a,n)=dJ (.inr (e1 a,e2 a))){a:β}(ha:S a):
  zH body (e1 a,e2 a,0)=dJ (e1 (iter n.toNat g a),e2 (iter n.toNat g a)):=by
 have ef:∀k,S (iter k g a):=fun k=>vG (S:=S) hS k ha
 exact zM (body:=body) (r:=(e1 (iter n.toNat g a),e2 (iter n.toNat g a))) (fun i=>(e1 (iter i g a),e2 (iter i g a),(i:Int))) n.toNat (by grind[wW]) (by grind)
structure Mv (D n:Nat) (m0 m:zC):Prop where
 pr:m0.Prime=m.Prime
 mv:∀k,k<n→ ∀u,Row m.Prime D u→zUS m0 u (k:Int)=dJ (xJ m.Prime D u (m.zG.getD k []))
theorem Mv.self{n D:Nat}{m:zC}(hE:MOk n m D):Mv D n m m:=by
 refine⟨rfl,fun k hk u hu=>?_⟩;have h3:=hE.d3;have h1:=hE.d1;have hA:=hE.mat k hk;have eS:=hu.1;have hl:=hE.len;unfold zUS;have e1:zF6 m u (k:Int) ([],0)=dJ (.inl (xJ m.Prime D u (m.zG.getD k []),(D:Int))):=by
  unfold zF6;simp only
  rw[dP (by omega),zK,hE.d,zF (by omega) (by omega),bs,Lh];have fC:zQ u 0 (D:Int)=dJ u:=by
   unfold zQ;rw[if_pos (by omega)]
   congr 1
   rw[show((D:Int)).toNat=D from by omega,show(0:Int).toNat=0 from rfl,G9,Jr (by omega)]
  rw[fC,bs,zT [] (by omega),bs,zCz hE.p (by omega) hu hA,bs,zP (by grind[xJ,zU]),bs,bs,Jq]
 have e2:zF6 m u (k:Int) (xJ m.Prime D u (m.zG.getD k []),(D:Int))=dJ (.inr (xJ m.Prime D u (m.zG.getD k []))):=by
  unfold zF6
  simp_all
 grind[yQ]
section
variable {D:Nat}{x:SPr}{m0 m:zC}{T:Mx} (h:Pres x) (hE:ExB x.zA.length D x m T) (hT:∀i,i<T.length→Row m.Prime D (T.getD i []))
def zTs(D:Nat)(x:SPr)(m0 m:zC)(T:Mx)(k:Nat)(g:zN→Int→zI→zI→Option zI):Prop:=
 ∀a b,V (suf (exx D x m T) k) a→V (suf (exx D x m T) k) b→g ⟨x,m0,T⟩ k (prE x k a) (prE x k b)=dJ (prE x k (mul (suf (exx D x m T) k) a b))
def zTt(D:Nat)(x:SPr)(m0 m:zC)(T:Mx)(k:Nat)(g:zN→Int→zI→Option zI):Prop:=
 ∀v,V (suf (exx D x m T) (k+1)) v→g ⟨x,m0,T⟩ k (prE x (k+1) v)=dJ (prE x (k+1) (sig (suf (exx D x m T) (k+1)) (lvl (exx D x m T) k) v))
 include h hE hT
theorem zPK{k i j:Nat}(hk:k≤i)(hi:i<j)(hj:j<x.zA.length):zLk ⟨x,m0,T⟩ (i:Int) (j:Int)=dJ (prE x (k+1) ((((exx D x m T).zB.getD i []).getD (j-(i+1)) []).drop (k+1)))∧V (suf (exx D x m T) (k+1)) ((((exx D x m T).zB.getD i []).getD (j-(i+1)) []).drop (k+1)):=by
 have hn:=hE.hn;have hb:=qD x.zA.length (by omega) i (by omega);have ht:=hE.t;obtain⟨_,t2,t3⟩:=h.tl i (by omega);have tt:=t3 (j-(i+1)) (by omega);obtain⟨e1,e2⟩:=zDn (k:=k+1) tt (by omega) (by omega);have hl:=wR h (by omega) e2;have gA:=h.cl;have hr:=zEm h hE hT hi hj;refine⟨?_,?_⟩
 ·rw[zGe h hE hT hk hi hj,jN hl,←e1]
  unfold zLk;dsimp only
  rw[zT [] (by omega),bs,zF (by omega) (by omega),bs,zF (by omega) (by omega),bs,show(j:Int)-(i:Int)-1=((j-(i+1):Nat):Int)from by omega,zT [] (by omega),bs,zIg x.zA.length (by omega) j hj i hi,bs,zT [] (by omega),bs,show j-i-1=j-(i+1)from by omega]
 ·rw[zGe h hE hT hk hi hj]
  exact(sK h hE hT (x.zA.length-(k+1)) (k+1) (by omega) _).2 ⟨_,_,rfl,e2,hr⟩
theorem zFr{k j:Nat}(hk:k<j)(hj:j<x.zA.length):zLk ⟨x,m0,T⟩ (k:Int) (j:Int)=dJ (prE x (k+1) ((lvl (exx D x m T) k).cs.getD (j-(k+1)) []))∧V (suf (exx D x m T) (k+1)) ((lvl (exx D x m T) k).cs.getD (j-(k+1)) []):=by
 have e:(lvl (exx D x m T) k).cs.getD (j-(k+1)) []=(((exx D x m T).zB.getD k []).getD (j-(k+1)) []).drop (k+1):=by
  have hC:((exx D x m T).zB.getD k []).length=x.zA.length+D-1-k:=by rw[zIs h hE hT (by omega),exC,if_pos (by omega),yN]
  simp only[lvl];rw[J3,K4,J7 (by omega),J3 (l:=(exx D x m T).zB.getD k []),J7 (by omega)];rfl
 rw[e];exact zPK h hE hT (Jk k) hk hj
theorem zKF{k j:Nat}(hk:k≤j)(hj:j<x.zA.length):zO4 ⟨x,m0,T⟩ (j:Int)=dJ (prE x (k+1) (((exx D x m T).zJ.getD j []).drop (k+1)))∧V (suf (exx D x m T) (k+1)) (((exx D x m T).zJ.getD j []).drop (k+1)):=by
 have hn:=hE.hn;have hb:=xW x.zA.length (by omega);have ht:=hE.t;have fW:=h.pl;have t1:=(h.tl j hj).1;obtain⟨e1,e2⟩:=zDn (k:=k+1) t1 (by omega) (by omega);have hl:=wR h (by omega) e2;have hr:=zC8 h hE hT hj;refine⟨?_,?_⟩
 ·rw[zE6 h hE hT hk hj,jN hl,←e1]
  grind[zO4,zT]
 ·rw[zE6 h hE hT hk hj]
  exact(sK h hE hT (x.zA.length-(k+1)) (k+1) (by omega) _).2 ⟨_,_,rfl,e2,hr⟩
theorem zKG{k:Nat}(hk:k≤x.zA.length)(h0:0<x.zA.length):zNn ⟨x,m0,T⟩=dJ (prE x k (zeros (suf (exx D x m T) k).length)):=by
 have hn:=hE.hn;have h3:=hE.m.d3;have hb:=xW x.zA.length (by omega);have ht:=hE.t;have hr:=zC8 h hE hT h0;have mQ:=hr.1;unfold zNn;dsimp only
 have e0:ixO T 0=dJ (T.getD 0 []):=by grind[zT]
 rw[dP (by omega),zK,e0,bs,yK (by omega),bs,yK (by omega),bs,zBL h hE hT hk,jN (zV _),mQ,fv]
 grind[zeros,Jl]
theorem zTu{u v:Vec}(hu:Row m.Prime D u)(hv:Row m.Prime D v):f_H m.Prime u 1 v=dJ (adv m.Prime D u v):=by
 have _:=h;have _:=hT;have h3:=hE.m.d3;rw[uQ hE.m.p hu hv (by omega) (by omega)]
 congr 1
 exact yA (by simp)
theorem prV{k:Nat}(hk:k≤x.zA.length){w:Vec}(hw:V (suf (exx D x m T) k) w):∃y u,w=y++u∧V (suf x k) y∧Row m.Prime D u∧prE x k w=⟨fv k y,u⟩∧y.length=x.zA.length-k:=by obtain⟨y,u,rfl,hy,hu⟩:=(sK h hE hT (x.zA.length-k) k (by omega) _).1 hw;have e7:=wR h hk hy;exact⟨y,u,rfl,hy,hu,jN e7,e7⟩
variable (hM:Mv D x.zA.length m0 m)
 include hM
theorem zM9{k:Nat}(hk:k<x.zA.length){g:zN→Int→zI→zI→Option zI}(hg:zTs D x m0 m T (k+1) g):zTt D x m0 m T k (b_f g):=by
 intro v hv;have hn:=hE.hn;have hp:=hE.m.p.pos;have ok:=vS h hE hT (k:=k+1) (by omega);have hA:=hE.m.mat k hk;obtain⟨y,u,rfl,hy,hu,fE,e7⟩:=prV h hE hT (k:=k+1) (by omega) hv;obtain⟨_,hyr⟩:=zE2 h.os (x.zA.length-(k+1)) (k+1) y (by omega) hy;have gA:=qZ h hE hT (k:=k);have gP:=zPI h hE hT hk;have hcg:∀i,i<x.zA.length-(k+1)→(eC1 x T k).getD i []=(lvl (exx D x m T) k).cs.getD i []:=fun i hi=>by rw[zC6 h hE hT hk,J3,J3,K3 (by omega)]
 obtain⟨A,aj⟩:∃A:Nat→Vec,∀i,A i=img (mul (suf (exx D x m T) (k+1))) ((eC1 x T k).take i) (y.take i) (zeros (suf (exx D x m T) (k+1)).length):=⟨_,fun _=>rfl⟩;have hI:∀i,V (suf (exx D x m T) (k+1)) (A i):=fun i=>by rw[aj];exact kH (yV ok) _ _ (by grind) (xU ok)
 have hA0:A 0=zeros (suf (exx D x m T) (k+1)).length:=by grind[img]
 have hAn:A (x.zA.length-(k+1))=sgG D x m T k y:=by rw[aj,Jr (by omega),Jr (by omega)];rfl
 rw[fE];unfold b_f;dsimp only
 rw[zKG h hE hT (k:=k+1) (by omega) (by omega),bs,zF (by omega) (by omega),bs,cs];have:=zM (body:=zUT g ⟨x,m0,T⟩ k ⟨fv (k+1) y,u⟩) (r:=((prE x (k+1) (sgG D x m T k y)).x,(prE x (k+1) (sgG D x m T k y)).v))
  (fun i=>((prE x (k+1) (A i)).x,(prE x (k+1) (A i)).v,((k+1+i:Nat):Int))) (x.zA.length-(k+1)) (fun i hi=>by
  have hr:=hyr i hi;obtain⟨c1,c2⟩:=zFr h hE hT (k:=k) (j:=k+1+i) (by omega) (by omega);rw[show k+1+i-(k+1)=i from by omega]at c1 c2;unfold zUT;dsimp only
  rw[dP (by grind[zDl]),zK];rw[zC9 (S:=V (suf (exx D x m T) (k+1))) (fun w=>(prE x (k+1) w).x) (fun w=>(prE x (k+1) w).v) (fun w=>mul (suf (exx D x m T) (k+1)) w ((lvl (exx D x m T) k).cs.getD i [])) (at0 y i) hr.1 (by grind[yV]) (fun w q hw hq=>by
   unfold zX0;dsimp only
   rw[fv,zMe (by omega),bs,dP hq,zK,zF (by omega) (by omega),bs,c1,bs,cs,show(zI.mk (prE x (k+1) w).x (prE x (k+1) w).v)=prE x (k+1) w from rfl,hg w _ hw c2,bs,zF (by omega) (by omega),bs,cs]) (fun w hw=>by
   unfold zX0;dsimp only
   rw[fv,zMe (by omega),bs,dO (by omega),zL]) (hI i),bs,zF (by omega) (by omega),bs,cs]
  rw[aj (i+1),zCc _ _ _ _ (by omega) (by omega),hcg i hi,←aj];rfl) (by
  unfold zUT;dsimp only
  rw[dO (by grind[zDl]),zL,hAn])
 rw[hA0,Jad]at this;rw[this,bs,hM.mv k hk _ hu,bs];obtain⟨y1,u1,e,eY,fO,aT,pW⟩:=prV h hE hT (k:=k+1) (by omega) (zIp h hE hT hk (y:=y));rw[zC7 h hE hT hk hy hu,aT,e,Jp pW,Jx pW,jN pW];dsimp only
 rw[hM.pr,zTu h hE hT fO (wU (by omega)),bs]
theorem zTv{k:Nat}(hk:k<x.zA.length){g:zN→Int→zI→zI→Option zI}{gi:zN→Int→zI→Option zI}(hg:zTs D x m0 m T (k+1) g)(hi:zTt D x m0 m T k gi):zTs D x m0 m T k (b_c gi g):=by
 have _:=hM;intro a b ha hb;have hn:=hE.hn;have hl:=xM h hE hT;have hp:=(h.os.2 k hk).pos;have ok:=vS h hE hT (k:=k+1) (by omega);have ok0:=vS h hE hT (k:=k) (by omega);obtain⟨al,au,rfl,mB,hau,fk,ft⟩:=prV h hE hT (k:=k) (by omega) ha;obtain⟨bl,bu,rfl,fT,hbu,mS,hbll⟩:=prV h hE hT (k:=k) (by omega) hb;rw[fk,mS];rw[zY (x:=x) hk]at mB fT;rw[zY (x:=exx D x m T) (by omega)]at ok0 ⊢
 obtain⟨a0,a,rfl⟩:∃a0 a',al=a0::a':=by cases al with|nil=>grind|cons p q=>simp
 obtain⟨b0,b,rfl⟩:∃a0 a',bl=a0::a':=by cases bl with|nil=>grind|cons p q=>simp
 obtain⟨⟨a1,a2⟩,mB⟩:=mB;obtain⟨⟨b1,b2⟩,fT⟩:=fT;change a0<at0 x.zA k at a2;change b0<at0 x.zA k at b2;have dB:=wR h (by omega) mB;have dx:=wR h (by omega) fT;have hA:=(sK h hE hT (x.zA.length-(k+1)) (k+1) (by omega) (a++au)).2 ⟨_,_,rfl,mB,hau⟩;have hB:=(sK h hE hT (x.zA.length-(k+1)) (k+1) (by omega) (b++bu)).2 ⟨_,_,rfl,fT,hbu⟩;have own:∀u,V (suf x (k+1)) u→f_p (fv (k+1) u)=dJ (fv (k+1) u):=by grind[xX,zDl]
 have own':∀(c:Int) u,V (suf x (k+1)) u→f_p (fv k (c::u))=dJ (fv k (c::u)):=fun c u hu=>xX (by have:=wR h (by omega) hu;rw[fv,J5,zV,Jc];omega)
 have ep:∀u,V (suf (exx D x m T) (k+1)) u→V (suf (exx D x m T) (k+1)) (sig (suf (exx D x m T) (k+1)) (lvl (exx D x m T) k) u):=by grind[zDg]
 have ef:V (suf (exx D x m T) (k+1)) (iter b0.toNat (sig (suf (exx D x m T) (k+1)) (lvl (exx D x m T) k)) (a++au)):=vG ep _ hA;have ea:(⟨fv (k+1) a,au⟩:zI)=prE x (k+1) (a++au):=(jN dB).symm;have eb:(⟨fv (k+1) b,bu⟩:zI)=prE x (k+1) (b++bu):=(jN dx).symm;unfold b_c;dsimp only
 rw[dO (by omega),zL,own' _ _ mB,bs,own' _ _ fT,bs,zDj,bs,zDj,bs,J8,zEj,zEj,zCv,zCv];have e1:zH (zRz gi ⟨x,m0,T⟩ k ⟨fv k (b0::b),bu⟩) (zeros (k+1)++a,au,0)=dJ ((prE x (k+1) (iter b0.toNat (sig (suf (exx D x m T) (k+1)) (lvl (exx D x m T) k)) (a++au))).x,(prE x (k+1) (iter b0.toNat (sig (suf (exx D x m T) (k+1)) (lvl (exx D x m T) k)) (a++au))).v):=by
  have:=zC9 (body:=zRz gi ⟨x,m0,T⟩ k ⟨fv k (b0::b),bu⟩) (S:=V (suf (exx D x m T) (k+1))) (fun w=>(prE x (k+1) w).x) (fun w=>(prE x (k+1) w).v) (sig (suf (exx D x m T) (k+1)) (lvl (exx D x m T) k)) b0 b1 ep (fun w q hw hq=>by
   unfold zRz;dsimp only
   rw[zDj,bs,dP hq,zK,show(zI.mk (prE x (k+1) w).x (prE x (k+1) w).v)=prE x (k+1) w from rfl,hi w hw,bs,zF (by omega) (by omega),bs,cs]) (fun w hw=>by
   unfold zRz;dsimp only
   rw[zDj,bs,dO (by omega),zL]) hA
  grind
 rw[e1,bs,zF (by omega) (by omega),bs,cs];dsimp only
 rw[show zeros (k+1)++b=fv (k+1) b from rfl,eb,show(zI.mk (prE x (k+1) (iter b0.toNat (sig (suf (exx D x m T) (k+1)) (lvl (exx D x m T) k)) (a++au))).x (prE x (k+1) (iter b0.toNat (sig (suf (exx D x m T) (k+1)) (lvl (exx D x m T) k)) (a++au))).v)=prE x (k+1) (iter b0.toNat (sig (suf (exx D x m T) (k+1)) (lvl (exx D x m T) k)) (a++au))from rfl,hg _ _ ef hB,bs,bs,bs,zF (by omega) (by omega),bs,yF hk,bs];have hm:=yV ok ef hB;show _=dJ (prE x k (mul _ (a0::(a++au)) (b0::(b++bu))));rw[yP,zCh h hE hT hk]
 generalize mul (suf (exx D x m T) (k+1)) (iter b0.toNat (sig (suf (exx D x m T) (k+1)) (lvl (exx D x m T) k)) (a++au)) (b++bu)=r at hm ⊢
 have fin:∀(c:Int) w,V (suf (exx D x m T) (k+1)) w→((f_p (prE x (k+1) w).x).bind fun r22=>(ixO r22 (k:Int)).bind fun _=>dJ (zI.mk (r22.set k c) (prE x (k+1) w).v))=dJ (prE x k (c::w)):=fun c w hw=>by
  obtain⟨w1,w2,rfl,h1,h2,h3,h4⟩:=prV h hE hT (k:=k+1) (by omega) hw;have e3:prE x k (c::(w1++w2))=⟨fv k (c::w1),w2⟩:=by grind[jN]
  rw[h3,e3];dsimp only
  rw[own _ h1,bs,fv,←zCv,zDj,bs,zEj]
 by_cases hge:a0+b0≥at0 x.zA k
 ·obtain⟨p1,p2⟩:=zKF h hE hT (k:=k) (j:=k) (Jk k) hk
  change V (suf (exx D x m T) (k+1)) (lvl (exx D x m T) k).w at p2;rw[dP hge,zK,if_pos hge,bs,zF (by omega) (by omega),bs,bs,p1,bs];have e4:=hg _ _ p2 hm;rw[show(((exx D x m T).zJ.getD k []).drop (k+1))=(lvl (exx D x m T) k).w from rfl,e4,bs]
  grind[yV]
 ·rw[dO hge,zL,if_neg hge]
  grind
theorem zE7:∀(d k:Nat),k+d=x.zA.length→(∀q,2*d+1≤q→zTs D x m0 m T k (zO6 q))∧(1≤d→ ∀q,2*d≤q→zTt D x m0 m T k (zO5 q))
 |0,k,hk=>by
  refine⟨fun q hq a b ha hb=>?_,fun h=>by omega⟩;have hn:=hE.hn;have hp:=hE.m.p.pos;obtain⟨q,rfl⟩:∃m',q=m'+1:=⟨q-1,by omega⟩;rw[zAZ h hE hT D k (by omega) (by omega)]at ha hb ⊢
  have py:=(zEl _ _).1 ha;have eE:=(zEl _ _).1 hb;show b_c _ _ ⟨x,m0,T⟩ k _ _=_;unfold b_c;have e:∀w:Vec,prE x k w=⟨zeros k,w⟩:=fun w=>by rw[prE,show x.zA.length-k=0 from by omega,Km,G9,fv,Jb]
  rw[e,e,e];dsimp only
  rw[dP (by omega),zK,yK (by omega),bs,hM.pr,zTu h hE hT py eE,bs,qY (by omega) D _ _ py eE,show x.zA.length=k from by omega];rfl
 |d+1,k,hk=>by
  obtain⟨h1,h2⟩:=zE7 d (k+1) (by omega);have hI:∀q,2*(d+1)≤q→zTt D x m0 m T k (zO5 q):=fun q hq=>by obtain⟨q,rfl⟩:∃m',q=m'+1:=⟨q-1,by omega⟩;exact zM9 h hE hT hM (by omega) (h1 q (by omega))
  refine⟨fun q hq=>?_,fun _=>hI⟩;obtain⟨q,rfl⟩:∃m',q=m'+1:=⟨q-1,by omega⟩;exact zTv h hE hT hM (by omega) (h1 q (by omega)) (hI q (by omega))
theorem zIu{k:Nat}(hk:k≤x.zA.length):zTs D x m0 m T k f_c:=fun a b ha hb=>
 zBm (2*(x.zA.length-k)+1) fun q hq=>(zE7 h hE hT hM (x.zA.length-k) k (by omega)).1 q hq a b ha hb
theorem zB8{k:Nat}(hk:k<x.zA.length):zTt D x m0 m T k f_f:=fun v hv=>
 zBm (2*(x.zA.length-k)) fun q hq=>(zE7 h hE hT hM (x.zA.length-k) k (by omega)).2 (by omega) q hq v hv
end
end Go.Pl

namespace Go.Pl
open Go Go.Ab Go.Wk Go.Pc
structure GR (p:Int) (D:Nat) (Z:Vec→Prop) (L:Mx) (N:Nat) (C:Prop):Prop where
 len:L.length≤N
 row:∀r∈L,Row p D r
 iff:(∀r∈L,Z r)↔C
theorem GR.nil{p:Int}{D N:Nat}{Z:Vec→Prop}:GR p D Z [] N True:=⟨by simp,by simp,by simp⟩
theorem GR.app{p:Int}{D N M:Nat}{Z:Vec→Prop}{L L':Mx}{C C':Prop}(h:GR p D Z L N C)(h':GR p D Z L' M C'):GR p D Z (L++L') (N+M) (C∧C'):=by
 refine⟨by have:=h.len;have:=h'.len;grind,fun r hr=>?_,?_⟩
 ·rcases Jf.1 hr with g|g
  ·exact h.row r g
  ·exact h'.row r g
 ·rw[←h.iff,←h'.iff]
  grind
theorem GR.one{p:Int}{D:Nat}{Z:Vec→Prop}{r:List Int}{C:Prop}(hr:Row p D r)(h:Z r↔C):GR p D Z [r] 1 C:=
 ⟨by simp,by grind,by grind⟩
theorem GR.to{p:Int}{D N M:Nat}{Z:Vec→Prop}{L:Mx}{C C':Prop}(h:GR p D Z L N C)(hN:N≤M)(hc:C↔C'):GR p D Z L M C':=⟨by have:=h.len;omega,h.row,h.iff.trans hc⟩
def c1E(e:SPr)(k j:Nat):Prop:=pw (mul (suf e (k+1))) (zeros (suf e (k+1)).length) ((lvl e k).cs.getD (j-(k+1)) []) (at0 e.zA j).toNat=sig (suf e (k+1)) (lvl e k) ((e.zJ.getD j []).drop (k+1))
def c2E(e:SPr)(k i j:Nat):Prop:=mul (suf e (k+1)) ((lvl e k).cs.getD (j-(k+1)) []) ((lvl e k).cs.getD (i-(k+1)) [])=mul (suf e (k+1)) ((lvl e k).cs.getD (i-(k+1)) []) (sig (suf e (k+1)) (lvl e k) (((e.zB.getD i []).getD (j-(i+1)) []).drop (k+1)))
def c4E(e:SPr)(k j:Nat):Prop:=mul (suf e (k+1)) (lvl e k).w (iter (lvl e k).o.toNat (sig (suf e (k+1)) (lvl e k)) (yZ (e.zA.length-(k+1)) (j-(k+1))))=mul (suf e (k+1)) (yZ (e.zA.length-(k+1)) (j-(k+1))) (lvl e k).w
def c1Q(Q:Nat→Vec→Vec→Prop)(e:SPr)(k j:Nat):Prop:=Q (k+1) (pw (mul (suf e (k+1))) (zeros (suf e (k+1)).length) ((lvl e k).cs.getD (j-(k+1)) []) (at0 e.zA j).toNat) (sig (suf e (k+1)) (lvl e k) ((e.zJ.getD j []).drop (k+1)))
def c2Q(Q:Nat→Vec→Vec→Prop)(e:SPr)(k i j:Nat):Prop:=Q (k+1) (mul (suf e (k+1)) ((lvl e k).cs.getD (j-(k+1)) []) ((lvl e k).cs.getD (i-(k+1)) [])) (mul (suf e (k+1)) ((lvl e k).cs.getD (i-(k+1)) []) (sig (suf e (k+1)) (lvl e k) (((e.zB.getD i []).getD (j-(i+1)) []).drop (k+1))))
def c4Q(Q:Nat→Vec→Vec→Prop)(e:SPr)(k j:Nat):Prop:=Q (k+1) (mul (suf e (k+1)) (lvl e k).w (iter (lvl e k).o.toNat (sig (suf e (k+1)) (lvl e k)) (yZ (e.zA.length-(k+1)) (j-(k+1))))) (mul (suf e (k+1)) (yZ (e.zA.length-(k+1)) (j-(k+1))) (lvl e k).w)
structure LCQ (Q:Nat→Vec→Vec→Prop) (x e:SPr) (k:Nat):Prop where
 c1:∀j,k+1≤j→j<x.zA.length→c1Q Q e k j
 c2:∀i,k+1≤i→i<x.zA.length→ ∀j,i+1≤j→j<x.zA.length→c2Q Q e k i j
 c3:Q (k+1) (sig (suf e (k+1)) (lvl e k) (lvl e k).w) (lvl e k).w
 c4:∀j,k+1≤j→j<x.zA.length→c4Q Q e k j
section
variable {D:Nat}{x:SPr}{m0 m:zC}{T:Mx} (h:Pres x) (hE:ExB x.zA.length D x m T) (hT:∀i,i<T.length→Row m.Prime D (T.getD i []))
 include h hE hT
theorem zCA{k:Nat}(hk:k≤x.zA.length){a b:Vec}(ha:V (suf (exx D x m T) k) a)(hb:V (suf (exx D x m T) k) b):(mul (suf (exx D x m T) k) a b).take (x.zA.length-k)=mul (suf x k) (a.take (x.zA.length-k)) (b.take (x.zA.length-k)):=by grind[zKD]
theorem zE8{k:Nat}(hk:k<x.zA.length){v:Vec}(hv:V (suf (exx D x m T) (k+1)) v):(sig (suf (exx D x m T) (k+1)) (lvl (exx D x m T) k) v).take (x.zA.length-(k+1))=sig (suf x (k+1)) (lvl x k) (v.take (x.zA.length-(k+1))):=
 by grind[zM8,zKD]
theorem zGf{k:Nat}(hk:k<x.zA.length){v:Vec}(hv:V (suf (exx D x m T) (k+1)) v):V (suf (exx D x m T) (k+1)) (sig (suf (exx D x m T) (k+1)) (lvl (exx D x m T) k) v):=by
 have gz:=vS h hE hT (k:=k) (by omega);rw[zY (x:=exx D x m T) (by grind[xM])]at gz
 grind[zDg]
theorem zKH{k:Nat}(hk:k<x.zA.length):∀(q:Nat){v:Vec},V (suf (exx D x m T) (k+1)) v→(iter q (sig (suf (exx D x m T) (k+1)) (lvl (exx D x m T) k)) v).take (x.zA.length-(k+1))=iter q (sig (suf x (k+1)) (lvl x k)) (v.take (x.zA.length-(k+1)))
 |0,_,_=>rfl
 |q+1,v,hv=>by have:=zKH hk q (zGf h hE hT hk hv);rw[zE8 h hE hT hk hv]at this;exact this
theorem zWK{k:Nat}(hk:k≤x.zA.length):(zeros (suf (exx D x m T) k).length).take (x.zA.length-k)=zeros (suf x k).length:=by grind[zBL,zV,yH]
theorem zYK{k:Nat}(hk:k≤x.zA.length){c:Vec}(hc:V (suf (exx D x m T) k) c)(q:Nat):(pw (mul (suf (exx D x m T) k)) (zeros (suf (exx D x m T) k).length) c q).take (x.zA.length-k)=pw (mul (suf x k)) (zeros (suf x k).length) (c.take (x.zA.length-k)) q:=by have ok:=vS h hE hT (k:=k) (by omega);have:=zFo (S:=V (suf (exx D x m T) k)) (n:=mul (suf x k)) (·.take (x.zA.length-k)) (fun a b=>yV ok) (by grind[zCA]) [c] [(q:Int)] (zeros (suf (exx D x m T) k).length) (by grind) (xU ok);simp only[Jt,Gp,img,J8]at this;rw[zWK h hE hT hk]at this;exact this
section
variable {k:Nat} (hk:k<x.zA.length)
 include hk
theorem zJJ{j:Nat}(h1:k+1≤j)(h2:j<x.zA.length):((lvl (exx D x m T) k).cs.getD (j-(k+1)) []).take (x.zA.length-(k+1))=(lvl x k).cs.getD (j-(k+1)) []:=by rw[zIr h hE hT hk h1 h2,Jp (wR h (by omega) (zA8 h hk h1 h2).2.2)]
theorem zIv{j:Nat}(h1:k≤j)(h2:j<x.zA.length):(((exx D x m T).zJ.getD j []).drop (k+1)).take (x.zA.length-(k+1))=(x.zJ.getD j []).drop (k+1):=by
 have t1:=(h.tl j h2).1.1.1
 grind[zE6]
theorem zTw{i j:Nat}(h1:k+1≤i)(h2:i<j)(h3:j<x.zA.length):((((exx D x m T).zB.getD i []).getD (j-(i+1)) []).drop (k+1)).take (x.zA.length-(k+1))=((x.zB.getD i []).getD (j-(i+1)) []).drop (k+1):=by rw[zGe h hE hT (by omega) h2 h3,Jp (wR h (by omega) (zSU h hk h1 h2 h3).2.2)]
theorem zTx{j:Nat}(h1:k+1≤j)(h2:j<x.zA.length):yZ ((exx D x m T).zA.length-(k+1)) (j-(k+1))=yZ (x.zA.length-(k+1)) (j-(k+1))++zeros D:=by
 rw[xM h hE hT,zAX (by omega),zAX (by omega),Jg,Kd]
 grind[zeros,Jl]
end
variable (hM:Mv D x.zA.length m0 m) {Z:Vec→Prop}{Q:Nat→Vec→Vec→Prop} (hZ:∀k,k≤x.zA.length→ ∀a b,V (suf (exx D x m T) k) a→V (suf (exx D x m T) k) b→a.take (x.zA.length-k)=b.take (x.zA.length-k)→(Z (uW m.Prime D (a.drop (x.zA.length-k)) (-1) (b.drop (x.zA.length-k)))↔Q k a b))
 include hM hZ
theorem zKI{k:Nat}(hk:k≤x.zA.length){a b:Vec}(ha:V (suf (exx D x m T) k) a)(hb:V (suf (exx D x m T) k) b)(e:a.take (x.zA.length-k)=b.take (x.zA.length-k)):∃r,zNo ⟨x,m0,T⟩ (prE x k a) (prE x k b)=dJ r∧Row m.Prime D r∧(Z r↔Q k a b):=by
 have h7:=hE.m.p.pos;have h3:=hE.m.d3;obtain⟨y,u,rfl,hy,hu,fE,e7⟩:=prV h hE hT hk ha;obtain⟨z,v,rfl,hz,hv,aS,cm⟩:=prV h hE hT hk hb;have pz:=hZ k hk _ _ ha hb e;rw[Jx e7,Jx cm]at pz;unfold zNo;rw[fE,aS];dsimp only
 rw[hM.pr,zF (by omega) (by omega),bs,uQ hE.m.p hu hv (by omega) (by omega),bs,zE4];exact⟨_,rfl,zBp hE.m.p,pz⟩
section
variable {k:Nat} (hk:k<x.zA.length) (hc:LC x k)
 include hk
 include hc
theorem yEa{j:Nat}(h1:k+1≤j)(h2:j<x.zA.length){L0 L:Mx}{N:Nat}{C:Prop}(hL:GR m.Prime D Z L N C)(hN:N≤1000){f:Mx→Option (Mx×Int⊕Mx)}:∃L',((zNn ⟨x,m0,T⟩).bind fun r2=>
  (zH (zR0 ⟨x,m0,T⟩ (k:Int) (L0,(j:Int))) (r2.x,r2.v,0)).bind fun r8=>
  (zO4 ⟨x,m0,T⟩ (j:Int)).bind fun r9=>
  (f_f ⟨x,m0,T⟩ (k:Int) r9).bind fun r10=>
  (zNo ⟨x,m0,T⟩ (zI.mk r8.1 r8.2) r10).bind fun r11=>
  (zZ L [r11]).bind f)=f L'∧GR m.Prime D Z L' (N+1) (C∧c1Q Q (exx D x m T) k j):=by
 have ok:=vS h hE hT (k:=k+1) (by omega);have hn:=hE.hn;have hp:=(h.os.2 j h2).pos;have hz:=xU ok;obtain⟨c1,c2⟩:=zFr h hE hT (k:=k) (j:=j) (by omega) h2;obtain⟨p1,p2⟩:=zKF h hE hT (k:=k) (j:=j) (by omega) h2;have hA:=zIu h hE hT hM (k:=k+1) (by omega);have hI:=zB8 h hE hT hM hk;have db:zH (zR0 ⟨x,m0,T⟩ (k:Int) (L0,(j:Int))) ((prE x (k+1) (zeros (suf (exx D x m T) (k+1)).length)).x,(prE x (k+1) (zeros (suf (exx D x m T) (k+1)).length)).v,0)=dJ ((prE x (k+1) (pw (mul (suf (exx D x m T) (k+1))) (zeros (suf (exx D x m T) (k+1)).length) ((lvl (exx D x m T) k).cs.getD (j-(k+1)) []) (at0 x.zA j).toNat)).x,(prE x (k+1) (pw (mul (suf (exx D x m T) (k+1))) (zeros (suf (exx D x m T) (k+1)).length) ((lvl (exx D x m T) k).cs.getD (j-(k+1)) []) (at0 x.zA j).toNat)).v):=
  zC9 (S:=V (suf (exx D x m T) (k+1))) (fun w=>(prE x (k+1) w).x) (fun w=>(prE x (k+1) w).v) (fun w=>mul (suf (exx D x m T) (k+1)) w ((lvl (exx D x m T) k).cs.getD (j-(k+1)) [])) (at0 x.zA j) (by omega) (by grind[yV]) (fun w q hw hq=>by
   unfold zR0;dsimp only
   rw[yF h2,bs,dP hq,zK,zF (by omega) (by omega),bs,c1,bs,cs,show(zI.mk (prE x (k+1) w).x (prE x (k+1) w).v)=prE x (k+1) w from rfl,hA w _ hw c2,bs,zF (by omega) (by omega),bs,cs]) (fun w hw=>by
   simp_all[zR0,yF]) hz
 have aR:V (suf (exx D x m T) (k+1)) (pw (mul (suf (exx D x m T) (k+1))) (zeros (suf (exx D x m T) (k+1)).length) ((lvl (exx D x m T) k).cs.getD (j-(k+1)) []) (at0 x.zA j).toNat):=vG (by grind[yV]) _ hz;obtain⟨r,r1,r2,r3⟩:=zKI h hE hT hM hZ (k:=k+1) (by omega) aR (zGf h hE hT hk p2) (by rw[zYK h hE hT (by omega) c2,zE8 h hE hT hk p2,zJJ h hE hT hk h1 h2,zIv h hE hT hk (by omega) h2];exact hc.c1 j h1 h2)
 have a8:=hL.len;refine⟨L++[r],?_,hL.app (GR.one r2 (r3.trans ?_))⟩
 ·rw[zKG h hE hT (k:=k+1) (by omega) (by omega),bs,db,bs,p1,bs,hI _ p2,bs]
  dsimp only
  rw[r1,bs,zP (by simp;omega),bs]
 ·unfold c1Q;rw[tC h hE hT h2]
theorem yEb{j:Nat}(h1:k+1≤j)(h2:j<x.zA.length){L0 L:Mx}{N:Nat}{C:Prop}(hL:GR m.Prime D Z L N C)(hN:N≤1000):∃L',zH (zR1 ⟨x,m0,T⟩ (k:Int) (L0,(j:Int))) (L,((j+1:Nat):Int))=dJ L'∧GR m.Prime D Z L' (N+(x.zA.length-(j+1))) (C∧ ∀j2,j+1≤j2→j2<x.zA.length→c2Q Q (exx D x m T) k j j2):=by
 have ok:=vS h hE hT (k:=k+1) (by omega);have hn:=hE.hn;have hA:=zIu h hE hT hM (k:=k+1) (by omega);have hI:=zB8 h hE hT hM hk;refine uK (fun i(s:Mx×Int)=>s.2=((j+1+i:Nat):Int)∧GR m.Prime D Z s.1 (N+i) (C∧ ∀j2,j+1≤j2→j2<j+1+i→c2Q Q (exx D x m T) k j j2)) (x.zA.length-(j+1)) (fun i s hi ⟨hs,hg⟩=>?_) (fun s ⟨hs,hg⟩=>?_) ⟨rfl,hL.to (by omega) (by grind)⟩
 ·left
  obtain⟨L1,s2⟩:=s;dsimp only at hs hg;subst hs;have g2:j+1+i<x.zA.length:=by omega
  obtain⟨a1,a2⟩:=zFr h hE hT (k:=k) (j:=j) (by omega) h2;obtain⟨b1,b2⟩:=zFr h hE hT (k:=k) (j:=j+1+i) (by omega) g2;obtain⟨d1,d2⟩:=zPK h hE hT (k:=k) (i:=j) (j:=j+1+i) (by omega) (by omega) g2;have hs:=zGf h hE hT hk d2;obtain⟨r,r1,r2,r3⟩:=zKI h hE hT hM hZ (k:=k+1) (by omega) (yV ok b2 a2) (yV ok a2 hs) (by rw[zCA h hE hT (by omega) b2 a2,zCA h hE hT (by omega) a2 hs,zE8 h hE hT hk d2,zJJ h hE hT hk h1 h2,zJJ h hE hT hk (by omega) g2,zTw h hE hT hk h1 (by omega) g2];exact hc.c2 j h1 h2 (j+1+i) (by omega) g2)
  have a8:=hg.len;refine⟨(L1++[r],((j+1+i+1:Nat):Int)),?_,rfl,(hg.app (GR.one r2 r3)).to (by omega) ?_⟩
  ·unfold zR1
   dsimp only
   rw[dP (by omega),zK,a1,bs,b1,bs,d1,bs,hI _ d2,bs,zF (by omega) (by omega),bs,cs,hA _ _ b2 a2,bs,bs,hA _ _ a2 hs,bs,r1,bs,zP (by simp;omega),bs,zF (by omega) (by omega),bs,cs]
  ·constructor
   ·rintro⟨⟨g1,g3⟩,g4⟩
    refine⟨g1,fun j2 e1 e2=>?_⟩;rcases Jn j2 (j+1+i)with e|e
    ·grind
    ·obtain rfl:j2=j+1+i:=by omega
     exact g4
   ·rintro⟨g1,g3⟩
    exact⟨by grind,g3 (j+1+i) (by omega) (by omega)⟩
 ·obtain⟨L1,s2⟩:=s
  dsimp only at hs hg;subst hs;refine⟨L1,?_,hg.to (Jk _) ?_⟩
  ·unfold zR1
   grind
  grind
theorem yEc:∃L',zH (zUU ⟨x,m0,T⟩ (k:Int)) ([],((k+1:Nat):Int))=dJ L'∧GR m.Prime D Z L' 100 (∀j,k+1≤j→j<x.zA.length→c1Q Q (exx D x m T) k j∧ ∀j2,j+1≤j2→j2<x.zA.length→c2Q Q (exx D x m T) k j j2):=by
 have hn:=hE.hn;refine uK (fun i(s:Mx×Int)=>s.2=((k+1+i:Nat):Int)∧GR m.Prime D Z s.1 (7*i) (∀j,k+1≤j→j<k+1+i→c1Q Q (exx D x m T) k j∧ ∀j2,j+1≤j2→j2<x.zA.length→c2Q Q (exx D x m T) k j j2)) (x.zA.length-(k+1)) (fun i s hi ⟨hs,hg⟩=>?_) (fun s ⟨hs,hg⟩=>?_) ⟨rfl,(GR.nil (N:=0)).to (by omega) (by grind)⟩
 ·left
  obtain⟨L1,s2⟩:=s;dsimp only at hs hg;subst hs;have g2:k+1+i<x.zA.length:=by omega
  obtain⟨L2,e2,hg2⟩:=yEa h hE hT hM hZ hk hc (j:=k+1+i) (by omega) g2 (L0:=L1) hg (by omega) (f:=fun v12=>(rng (((k+1+i:Nat):Int)+1)).bind fun v13=>
   (zH (zR1 ⟨x,m0,T⟩ (k:Int) (L1,((k+1+i:Nat):Int))) (v12,v13)).bind fun r25=>
   (rng (((k+1+i:Nat):Int)+1)).bind fun v26=>dJ (.inl (r25,v26)))
  obtain⟨L3,e3,hg3⟩:=yEb h hE hT hM hZ hk hc (j:=k+1+i) (by omega) g2 (L0:=L1) hg2 (by omega);refine⟨(L3,((k+1+i+1:Nat):Int)),?_,rfl,hg3.to (by omega) ?_⟩
  ·unfold zUU
   dsimp only
   rw[dP (by omega),zK,e2,zF (by omega) (by omega),bs,cs,e3,bs,bs]
  grind
 ·obtain⟨L1,s2⟩:=s
  dsimp only at hs hg;subst hs;refine⟨L1,?_,hg.to (by omega) ?_⟩
  ·unfold zUU
   grind
  grind
theorem zTy{j:Nat}(h1:k+1≤j)(h2:j<x.zA.length):∃r,zNn ⟨x,m0,T⟩=dJ r∧ixO r.x (j:Int)=dJ 0∧r.x.set j 1=(prE x (k+1) (yZ (x.zA.length-(k+1)) (j-(k+1))++zeros D)).x∧r.v=(prE x (k+1) (yZ (x.zA.length-(k+1)) (j-(k+1))++zeros D)).v:=by
 have _:=hM;have _:=hZ;have _:=hc;have hn:=hE.hn;have eS:(yZ (x.zA.length-(k+1)) (j-(k+1))).length=x.zA.length-(k+1):=by rw[zAD,zU]
 refine⟨_,zKG h hE hT (k:=k+1) (by omega) (by omega),?_,?_,?_⟩
 ·rw[zBL h hE hT (by omega),jN (zV _)]
  dsimp only
  simp only[fv,zeros,Jl];rw[uZ,Kg,if_pos (by omega)]
 ·rw[zBL h hE hT (by omega),jN (zV _),jN eS]
  dsimp only
  have e1:fv (k+1) (zeros (x.zA.length-(k+1)))=zeros j++0::zeros (x.zA.length-(k+1)-(j-(k+1)+1)):=by
   simp only[fv,zeros];rw[←Ju,Jl,Jl]
   grind
  rw[e1,zEj,fv,zAX (by omega),←Jg]
  grind[zeros,Jl]
 grind[zBL,jN,zV]
theorem yEd{L:Mx}{N:Nat}{C:Prop}(hL:GR m.Prime D Z L N C)(hN:N≤1000):∃L',zH (zR2 ⟨x,m0,T⟩ (k:Int) (prE x (k+1) (((exx D x m T).zJ.getD k []).drop (k+1)))) (L,((k+1:Nat):Int))=dJ L'∧GR m.Prime D Z L' (N+(x.zA.length-(k+1))) (C∧ ∀j,k+1≤j→j<x.zA.length→c4Q Q (exx D x m T) k j):=by
 have hn:=hE.hn;have hpk:=(h.os.2 k hk).pos;have h7:=hE.m.p.pos;have ok:=vS h hE hT (k:=k+1) (by omega);have hA:=zIu h hE hT hM (k:=k+1) (by omega);have hI:=zB8 h hE hT hM hk;obtain⟨p1,p2⟩:=zKF (m0:=m0) h hE hT (k:=k) (j:=k) (Jk k) hk;change V (suf (exx D x m T) (k+1)) (lvl (exx D x m T) k).w at p2;change∃L',zH (zR2 ⟨x,m0,T⟩ (k:Int) (prE x (k+1) (lvl (exx D x m T) k).w)) (L,((k+1:Nat):Int))=dJ L'∧_;have ax:(lvl (exx D x m T) k).w.take (x.zA.length-(k+1))=(lvl x k).w:=zIv h hE hT hk (Jk k) hk;have ho:(lvl (exx D x m T) k).o=at0 x.zA k:=zCh h hE hT hk;refine uK (fun i(s:Mx×Int)=>s.2=((k+1+i:Nat):Int)∧GR m.Prime D Z s.1 (N+i) (C∧ ∀j,k+1≤j→j<k+1+i→c4Q Q (exx D x m T) k j)) (x.zA.length-(k+1)) (fun i s hi ⟨hs,hg⟩=>?_) (fun s ⟨hs,hg⟩=>?_) ⟨rfl,hL.to (by omega) (by grind)⟩
 ·left
  obtain⟨L1,s2⟩:=s;dsimp only at hs hg;subst hs;have g2:k+1+i<x.zA.length:=by omega
  obtain⟨r33,z1,z2,z3,z4⟩:=zTy h hE hT hM hZ hk hc (j:=k+1+i) (by omega) g2;have hue:=zTx h hE hT hk (j:=k+1+i) (by omega) g2;have hux:V (suf x (k+1)) (yZ (x.zA.length-(k+1)) (k+1+i-(k+1))):=by
   have:=zDf (h.okAt (k:=k+1) (by omega)) (j:=k+1+i-(k+1)) (by grind[yH])
   grind[yH]
  have eS:=wR h (by omega) hux;have mL:V (suf (exx D x m T) (k+1)) (yZ (x.zA.length-(k+1)) (k+1+i-(k+1))++zeros D):=(sK h hE hT (x.zA.length-(k+1)) (k+1) (by omega) _).2 ⟨_,_,rfl,hux,xC (by omega)⟩;have ef:V (suf (exx D x m T) (k+1)) (iter (at0 x.zA k).toNat (sig (suf (exx D x m T) (k+1)) (lvl (exx D x m T) k)) (yZ (x.zA.length-(k+1)) (k+1+i-(k+1))++zeros D)):=vG (fun w hw=>zGf h hE hT hk hw) _ mL;have db:zH (zUV ⟨x,m0,T⟩ (k:Int)) ((prE x (k+1) (yZ (x.zA.length-(k+1)) (k+1+i-(k+1))++zeros D)).x,(prE x (k+1) (yZ (x.zA.length-(k+1)) (k+1+i-(k+1))++zeros D)).v,0)=dJ ((prE x (k+1) (iter (at0 x.zA k).toNat (sig (suf (exx D x m T) (k+1)) (lvl (exx D x m T) k)) (yZ (x.zA.length-(k+1)) (k+1+i-(k+1))++zeros D))).x,(prE x (k+1) (iter (at0 x.zA k).toNat (sig (suf (exx D x m T) (k+1)) (lvl (exx D x m T) k)) (yZ (x.zA.length-(k+1)) (k+1+i-(k+1))++zeros D))).v):=
   zC9 (S:=V (suf (exx D x m T) (k+1))) (fun w=>(prE x (k+1) w).x) (fun w=>(prE x (k+1) w).v) (sig (suf (exx D x m T) (k+1)) (lvl (exx D x m T) k)) (at0 x.zA k) (by omega) (fun w hw=>zGf h hE hT hk hw) (fun w q hw hq=>by
    unfold zUV;dsimp only
    rw[yF hk,bs,dP hq,zK,show(zI.mk (prE x (k+1) w).x (prE x (k+1) w).v)=prE x (k+1) w from rfl,hI w hw,bs,zF (by omega) (by omega),bs,cs]) (fun w hw=>by
    simp_all[zUV,yF]) mL
  obtain⟨r,r1,r2,r3⟩:=zKI h hE hT hM hZ (k:=k+1) (by omega) (yV ok p2 ef) (yV ok mL p2) (by rw[zCA h hE hT (by omega) p2 ef,zCA h hE hT (by omega) mL p2,zKH h hE hT hk _ mL,ax,Jp eS];exact hc.c4 (k+1+i) (by omega) g2)
  have a8:=hg.len;refine⟨(L1++[r],((k+1+i+1:Nat):Int)),?_,rfl,(hg.app (GR.one r2 r3)).to (by omega) ?_⟩
  ·unfold zR2
   dsimp only
   rw[dP (by omega),zK,z1,bs,z2,bs,J8,z3,z4,db,bs,zF (by omega) (by omega),bs,cs];dsimp only
   have e1:=hA _ _ p2 ef;have e2:=hA _ _ mL p2;rw[show∀w,(zI.mk (prE x (k+1) w).x (prE x (k+1) w).v)=prE x (k+1) w from fun _=>rfl,show∀w,(zI.mk (prE x (k+1) w).x (prE x (k+1) w).v)=prE x (k+1) w from fun _=>rfl,e1,bs,bs,e2,bs,r1,bs,zP (by simp;omega),bs,zF (by omega) (by omega),bs,cs]
  ·have e4:c4Q Q (exx D x m T) k (k+1+i)↔Q (k+1) (mul (suf (exx D x m T) (k+1)) (lvl (exx D x m T) k).w (iter (at0 x.zA k).toNat (sig (suf (exx D x m T) (k+1)) (lvl (exx D x m T) k)) (yZ (x.zA.length-(k+1)) (k+1+i-(k+1))++zeros D))) (mul (suf (exx D x m T) (k+1)) (yZ (x.zA.length-(k+1)) (k+1+i-(k+1))++zeros D) (lvl (exx D x m T) k).w):=by
    grind[c4Q]
   rw[←e4];constructor
   ·grind
   grind
 ·obtain⟨L1,s2⟩:=s
  dsimp only at hs hg;subst hs;refine⟨L1,?_,hg.to (Jk _) ?_⟩
  ·unfold zR2
   grind
  grind
theorem yAx:∃L,f_t ⟨x,m0,T⟩ (k:Int)=dJ L∧GR m.Prime D Z L 120 (LCQ Q x (exx D x m T) k):=by
 have hn:=hE.hn;have hI:=zB8 h hE hT hM hk;obtain⟨p1,p2⟩:=zKF h hE hT (k:=k) (j:=k) (Jk k) hk;obtain⟨L1,e1,g1⟩:=yEc h hE hT hM hZ hk hc;have hs:=zGf h hE hT hk p2;obtain⟨r,r1,r2,r3⟩:=zKI h hE hT hM hZ (k:=k+1) (by omega) hs p2 (by rw[zE8 h hE hT hk p2,zIv h hE hT hk (Jk k) hk];exact hc.c3)
 obtain⟨L2,e2,g2⟩:=yEd h hE hT hM hZ hk hc (g1.app (GR.one r2 r3)) (by omega);have a8:=g1.len;refine⟨L2,?_,g2.to (by omega) ?_⟩
 ·unfold f_t
  rw[zF (by omega) (by omega),bs,cs,e1,bs,p1,bs,hI _ p2,bs,r1,bs,zP (by simp;omega),bs,bs,e2,bs]
 ·constructor
  ·rintro⟨⟨a1,a2⟩,a3⟩
   exact⟨by grind,by grind,a2,a3⟩
  ·intro a
   exact⟨⟨fun j b1 b2=>⟨a.c1 j b1 b2,fun j2 b3 b4=>a.c2 j b1 b2 j2 b3 b4⟩,a.c3⟩,a.c4⟩
end
theorem zTz(hx:xK (suf x 0)):∃L,zIY ⟨x,m0,T⟩=dJ L∧GR m.Prime D Z L 1000 (∀k,k<x.zA.length→LCQ Q x (exx D x m T) k):=by
 have hn:=hE.hn;have h3:=hE.m.d3;have mi:∀k,k<x.zA.length→LC x k:=fun k hk=>((zA9 h.w hk).1 (zBf hx k)).2
 obtain⟨L,e,g⟩:=uK (body:=zJT ⟨x,m0,T⟩) (Q:=fun L=>GR m.Prime D Z L 1000 (∀k,k<x.zA.length→LCQ Q x (exx D x m T) k)) (fun i(s:Mx×Int)=>s.2=(i:Int)∧GR m.Prime D Z s.1 (120*i) (∀k,k<i→LCQ Q x (exx D x m T) k)) x.zA.length (fun i s hi ⟨hs,hg⟩=>by
  left;obtain⟨L1,s2⟩:=s;dsimp only at hs hg;subst hs;obtain⟨L2,e2,g2⟩:=yAx h hE hT hM hZ hi (mi i hi);have l1:=hg.len;have l2:=g2.len;refine⟨(L1++L2,((i+1:Nat):Int)),?_,rfl,(hg.app g2).to (by omega) ?_⟩
  ·unfold zJT
   dsimp only
   rw[yI hi,zK,e2,bs,zP (by omega),bs,zF (by omega) (by omega),bs,cs]
  grind) (fun s ⟨hs,hg⟩=>by
  obtain⟨L1,s2⟩:=s;dsimp only at hs hg;subst hs;refine⟨L1,?_,hg.to (by omega) Iff.rfl⟩
  simp_all[zJT]) (s:=([],0)) ⟨rfl,(GR.nil (N:=0)).to (by omega) (by simp)⟩
 grind[zIY]
end
section
variable {D:Nat}{x:SPr}{m0 m:zC}{T:Mx} (h:Pres x) (hE:ExB x.zA.length D x m T) (hT:∀i,i<T.length→Row m.Prime D (T.getD i [])) (hM:Mv D x.zA.length m0 m)
 include h hE hT hM
theorem zKJ(hx:xK (suf x 0))(hr:zCe x m D):IsB (zR3 x m0 T) (xK (suf (exx D x m T) 0)):=by
 have hn:=hE.hn;have h3:=hE.m.d3;have hp:=hE.m.p.pos;obtain⟨L,e,g⟩:=zTz h hE hT hM (Z:=fun r=>r=zeros D) (Q:=fun _ a b=>a=b) (fun k hk a b ha hb e=>by
  obtain⟨y,u,rfl,hy,hu,_,e7⟩:=prV h hE hT hk ha;obtain⟨z,v,rfl,hz,hv,_,cm⟩:=prV h hE hT hk hb;rw[Jp e7,Jp cm]at e;subst e;rw[Jx e7,Jx e7,Uf,←zQK (p:=m.Prime) hu hv];constructor
  ·grind[uM]
  ·intro g
   rw[vC (zMw (p:=m.Prime) (r:=u) (s:=v) (k:=-1)),show zeros D=mkv D fun _=>0 from vX D]
   grind[yA]) hx
 have a8:=g.len;unfold zR3;rw[e,bs];refine(qI (body:=zNp L) L.length (fun i=> ∀j,j<(L.getD i []).length→at0 (L.getD i []) j=0) rfl (fun i hi _=>?_) ?_).iff ?_
 ·have eI:=g.row (L.getD i []) (by grind)
  unfold zNp;rw[yI hi,zK,zT [] hi,bs];rcases zFY (v:=L.getD i []) (by rw[eI.1];omega)with⟨z1,z2⟩|⟨z1,z2⟩
  ·left
   rw[z1,bs,Ja,zL,zF (by omega) (by omega),bs,cs]
   grind
  grind
 ·simp_all[zNp]
 ·rw[zKE h hE hT hr,show(∀k,k<x.zA.length→LCn x (exx D x m T) k)↔(∀k,k<x.zA.length→LCQ (fun _ a b=>a=b) x (exx D x m T) k)from⟨fun a k hk=>⟨(a k hk).c1,(a k hk).c2,(a k hk).c3,(a k hk).c4⟩,fun a k hk=>⟨(a k hk).c1,(a k hk).c2,(a k hk).c3,(a k hk).c4⟩⟩,←g.iff]
  constructor
  ·intro a r hr
   obtain⟨i,hi,rfl⟩:=K6.1 hr;have a:=a i hi;rw[J3,J7 hi]at a;have eI:=g.row _ hr;rw[vC eI.1,show zeros D=mkv D fun _=>0 from vX D]
   grind
  grind[Ke,uM]
end
end Go.Pl

namespace Go.Pl
open Go Go.Ab Go.Wk Go.Pc
theorem zDX{x:SPr}(h:Pres x):∃s:Nat,zRn x=dJ (s:Int)∧(s=0↔xK (suf x 0)):=by
 have h6:=h.os.1;unfold zRn;obtain⟨r,r1,r2⟩:=uK (body:=zG9 x) (Q:=fun r=> ∃s:Nat,r=(s:Int)∧xK (suf x s)∧(s=0∨ ¬xK (suf x (s-1)))) (fun i s=>i≤x.zA.length∧s=((x.zA.length-i:Nat):Int)∧xK (suf x (x.zA.length-i))) x.zA.length (fun i s hi ⟨_,hs,gP⟩=>by
   subst hs;have hk:x.zA.length-i-1<x.zA.length:=by omega
   have e9:x.zA.length-(i+1)=x.zA.length-i-1:=by omega
   rw[e9];have e8:i+1≤x.zA.length:=by omega
   rw[show x.zA.length-i=x.zA.length-i-1+1 from by omega]at gP ⊢
   have cK:=zHS h hk gP;have cP:=zA9 h.w hk
   generalize x.zA.length-i-1=k at*
   unfold zG9;rw[dP (by omega),zK,zF (by omega) (by omega),bs,show(((k+1:Nat):Int)-1)=(k:Int)from by omega];rcases cK with⟨g1,g2⟩|⟨r,g1,g2,g3⟩
   ·simp_all
   grind) (fun s ⟨_,hs,gP⟩=>by
   rw[Ku]at hs gP;subst hs;unfold zG9
   grind) (s:=(x.zA.length:Int)) ⟨by omega,by rfl,by rw[Qn,vA (by omega)];simp only[xK]⟩
 obtain⟨s,rfl,gP,hs⟩:=r2;rw[r1,bs];refine⟨s,rfl,by grind,fun g=>?_⟩
 grind[zBf]
section
variable {x:SPr}{m:zC}{T:Mx}{D:Nat} (hx:sU x) (hm:MOk x.zA.length m D) (hT:T.length≤1048576)
 include hx hm hT
def zB9(x:SPr)(m:zC)(D:Nat)(T:Mx):Prop:=T.length=base x.zA.length x.zA.length∧yCR m D T
theorem zAE:IsB (zRy x m T) (zB9 x m D T):=by
 have h6:=hx.n6;unfold zRy;rw[zC4 rfl h6,bs]
 by_cases g:T.length=base x.zA.length x.zA.length
 ·rw[show((T.length:Int)==((base x.zA.length x.zA.length:Nat):Int))=dL from by simp[g],zK]
  exact(IsB.b (zKC hm (by omega) hT)).iff ⟨fun q=>⟨g,q⟩,fun q=>q.2⟩
 ·rw[show((T.length:Int)==((base x.zA.length x.zA.length:Nat):Int))=dM from by simp;omega,zL]
  exact .inr ⟨rfl,fun q=>g q.1⟩
theorem zG4:IsB (zUW x m T) (zB9 x m D T):=by
 have h6:=hx.n6;have h3:=hm.d3;unfold zUW;rw[zIj rfl h6,bs]
 by_cases g:T.length=base x.zA.length x.zA.length
 ·rw[show((T.length:Int)==((base x.zA.length x.zA.length:Nat):Int))=dL from by simp[g],zK]
  exact(IsB.b (zQM hm.p hm.d (by omega) hT)).iff ⟨fun q=>⟨g,q⟩,fun q=>q.2⟩
 ·rw[show((T.length:Int)==((base x.zA.length x.zA.length:Nat):Int))=dM from by simp;omega,zL]
  exact .inr ⟨rfl,fun q=>g q.1⟩
 omit hT in
theorem zT0(ht:zB9 x m D T):zGa x.zA.length D x m T:=by
  have h3:=hm.d3;exact zGa.of hx hm ht.1 (zOb fun i hi=>by have:=(ht.2 i hi).1;omega)
 omit hT in
theorem zPL(ht:zB9 x m D T):IsB (zUX x m T) (xK (suf (exx D x m T) 0)):=by
  have hE:=zT0 hx hm ht;unfold zUX;rw[zFk hE,bs];obtain⟨s,s1,s2⟩:=zDX ((zFn hx.toPres (hE.b hm) ht.2).p (by rw[xM hx.toPres (hE.b hm) ht.2];have:=hm.d3;have:=hE.hn;omega))
  grind[IsB.of_bool]
end
end Go.Pl

namespace Go.Pl
open Go Go.Ab Go.Wk Go.Pc
def Coc(x:SPr)(m:zC)(D:Nat)(T:Mx):Prop:=zB9 x m D T∧xK (suf (exx D x m T) 0)
section
variable {x:SPr}{m:zC}{A B:Mx}{L:List Mx}
theorem zJK(hx:zYH x)(hm:yAe m)(hA:A.length≤1048576)(hB:B.length≤1048576)(hl:L.length≤1000)(hL:∀t,t∈L↔t=A∨t=B):∃c:Int,zR4 x m A B=dJ c∧zVc x m L=dJ c∧(c=0→zBo x∧ ∃D,MOk x.zA.length m D∧zCe x m D∧Coc x m D A∧Coc x m D B):=by
 have tj:x.zA.length≤1048576:=hx.1;have bJ:=S3.len hm;unfold zR4 zVc;rcases(zBI (m:=m) tj).both (zBJ (m:=m) tj bJ)with⟨s1,i1,hM⟩|⟨s1,i1,hM⟩
 ·obtain⟨hc,D,hD,hr⟩:=hM
  have gn:∀i,i<L.length→L.getD i []=A∨L.getD i []=B:=by grind[Ke]
  have gf:∀i,i<L.length→(L.getD i []).length≤1048576:=by grind
  have ft:∀(P:Mx→Prop),(∀i,0≤i→i<L.length→P (L.getD i []))↔P A∧P B:=fun P=>by
   constructor
   ·intro g
    have key:∀t,t∈L→P t:=fun t ht=>by
     obtain⟨i,hi,rfl⟩:=K6.1 ht
     grind
    grind
   grind
  have c0:∀i:Nat,i<L.length→((i:Nat):Int)<(L.length:Int):=fun i hi=>by omega
  simp only[s1,i1,bs,Ja,zL];have c1:=chk (body:=zNt x m L) L.length 0 (Kf _) (fun i=>zB9 x m D (L.getD i [])) (fun _=>(1:Int)) (fun i _ hi _=>by
   unfold zNt;rw[yI hi,zK,zT [] hi,bs];rcases zG4 hc.2.2 hD (gf i hi)with⟨z1,z2⟩|⟨z1,z2⟩
   ·left
    rw[z1,bs,Ja,zL,zF (by omega) (by omega),bs,cs]
    grind
   grind) (by
   unfold zNt;simp)
  rw[show((0:Nat):Int)=0 from rfl]at c1;have hAB:(∀i,0≤i→i<L.length→zB9 x m D (L.getD i []))↔_:=ft (zB9 x m D);rcases c1 with⟨c1,c2⟩|⟨i,_,hi,c1,c2⟩
  ·obtain⟨tA,tB⟩:=hAB.1 c2
   rw[c1,bs];simp only
   rcases zAE hc.2.2 hD hA with⟨z1,_⟩|⟨_,z2⟩
   rcases zAE hc.2.2 hD hB with⟨y1,_⟩|⟨_,y2⟩
   ·simp only[z1,y1,bs,Ja,zL]
    have c3:=chk (body:=zNu x m L) L.length 0 (Kf _) (fun i=>xK (suf (exx D x m (L.getD i [])) 0)) (fun _=>(5:Int)) (fun i _ hi _=>by
     unfold zNu;rw[yI hi,zK,zT [] hi,bs];rcases zPL hc.2.2 hD (c2 i (Kf _) hi)with⟨z1,z2⟩|⟨z1,z2⟩
     ·left
      rw[z1,bs,Ja,zL,zF (by omega) (by omega),bs,cs]
      grind
     grind) (by
     unfold zNu;simp)
    rw[show((0:Nat):Int)=0 from rfl]at c3;have hCC:(∀i,0≤i→i<L.length→xK (suf (exx D x m (L.getD i [])) 0))↔_:=ft (fun t=>xK (suf (exx D x m t) 0));have sA:=zKJ hc.1 ((zT0 hc.2.2 hD tA).b hD) tA.2 (Mv.self hD) hc.2.1 hr;have sB:=zKJ hc.1 ((zT0 hc.2.2 hD tB).b hD) tB.2 (Mv.self hD) hc.2.1 hr;rcases c3 with⟨c3,c4⟩|⟨i,_,hi,c3,c4⟩
    ·obtain⟨kA,kB⟩:=hCC.1 c4
     rcases sA with⟨z3,_⟩|⟨_,z3⟩
     rcases sB with⟨y3,_⟩|⟨_,y3⟩
     ·rw[z3,bs,Ja,zL,y3,bs,Ja,zL,c3,bs]
      exact⟨0,rfl,rfl,fun _=>⟨hc,D,hD,hr,⟨tA,kA⟩,tB,kB⟩⟩
     all_goals grind
    ·rw[c3,bs]
     refine⟨5,?_,rfl,by simp⟩;rcases sA with⟨z3,z4⟩|⟨z3,z4⟩
     ·rcases sB with⟨y3,y4⟩|⟨y3,y4⟩
      all_goals grind
     grind
   all_goals grind
  ·rw[c1,bs]
   refine⟨1,?_,rfl,by simp⟩;rcases zAE hc.2.2 hD hA with⟨z1,z2⟩|⟨z1,z2⟩
   ·rcases zAE hc.2.2 hD hB with⟨y1,y2⟩|⟨y1,y2⟩
    all_goals grind
   grind
 simp_all
end
end Go.Pl

namespace Go.Pl
open Go Go.Ab Go.Wk Go.Pc
end Go.Pl

namespace Go.Pl
open Go Go.Ab Go.Wk Go.Pc
end Go.Pl

namespace Go.Pl
open Go Go.Ab Go.Wk Go.Pc
end Go.Pl

namespace Go.Pl
open Go Go.Ab Go.Wk Go.Pc
end Go.Pl

namespace Go.Pl
open Go Go.Ab Go.Wk Go.Pc
abbrev zE9:=Nat×List Nat×List Nat
section
variable (x:SPr)
abbrev yE(a:Nat):Nat:=(at0 x.zA a).toNat
abbrev lcj(i j:Nat):List Int:=(x.zB.getD i []).getD (j-(i+1)) []
def swp:List Nat→Option zE9
 |a::b::s=>if b<a then dJ (base x.zA.length b+(a-(b+1)),s,b::(nw 0 (lcj x b a)++s))else dK
 |_=>dK
def pws:List Nat→Option zE9
 |a::w=>if(a::w).take (yE x a)=J1 (yE x a) a then dJ (a,(a::w).drop (yE x a),nw 0 (x.zJ.getD a [])++(a::w).drop (yE x a))else dK
 | []=>dK
def hdS(w:List Nat):Option zE9:=match swp x w with
 |some r=>dJ r
 |none=>pws x w
def stS:List Nat→Option zE9
 | []=>dK
 |a::w=>match hdS x (a::w)with
  |some r=>dJ r
  |none=>(stS w).map fun r=>(r.1,r.2.1,a::r.2.2)
end
section
variable {x:SPr}
theorem zWL{w s:List Nat}{r:zE9}(h:swp x w=dJ r):swp x (w++s)=dJ (r.1,r.2.1++s,r.2.2++s):=by
 match w,h with
 | [],h=>cases h
 | [_],h=>cases h
 |a::b::w,h=>
  simp only[swp]at h
  by_cases g:b<a
  ·rw[if_pos g]at h
   cases h;simp only[Kd,swp,if_pos g,Jg]
  grind
theorem zCi{w:List Nat}{o a:Nat}(h:w.take o=J1 o a):o≤w.length:=by
 have:=congrArg Jb0 h
 grind
theorem zWM{w s:List Nat}{r:zE9}(h:pws x w=dJ r):pws x (w++s)=dJ (r.1,r.2.1++s,r.2.2++s):=by
 match w,h with
 | [],h=>cases h
 |a::w,h=>
  simp only[pws]at h
  by_cases g:(a::w).take (yE x a)=J1 (yE x a) a
  ·rw[if_pos g]at h
   cases h;have hl:=zCi g;have e1:(a::(w++s)).take (yE x a)=(a::w).take (yE x a):=by grind
   have e2:(a::(w++s)).drop (yE x a)=(a::w).drop (yE x a)++s:=by grind
   simp only[Kd,pws]
   grind
  grind
theorem zFs{a b:Nat}{s s2:List Nat}(h:swp x (a::b::s)=dK):swp x (a::b::s2)=dK:=by
 simp only[swp]at h ⊢
 grind
theorem zPM{w:List Nat}(h:hdS x w=dK):swp x w=dK∧pws x w=dK:=by
 unfold hdS at h
 grind
theorem zT1{w:List Nat}(h1:swp x w=dK)(h2:pws x w=dK):hdS x w=dK:=by grind[hdS]
theorem yAy{w s:List Nat}(hw:∀a∈w,2≤yE x a){r:zE9}(h:hdS x w=dJ r):hdS x (w++s)=dJ (r.1,r.2.1++s,r.2.2++s):=by
 unfold hdS at h ⊢
 cases e:swp x w with
 |some q=>
  grind[zWL]
 |none=>
  rw[e]at h;have e2:swp x (w++s)=dK:=by
   match w,h with
   | [],h=>cases h
   | [a],h=>
    have h2:=hw a (by simp);simp only[pws]at h
    by_cases g:[a].take (yE x a)=J1 (yE x a) a
    ·have h4:=zCi g;grind
    grind
   |a::b::w,h=>exact zFs e
  grind[zWM]
theorem zEA{k a:Nat}(hk:k<yE x a):∀j,j≤k→ ∀{w:List Nat},(∀b,w.head? =dJ b→a<b)→stS x (J1 j a++w)=(stS x w).map fun r=>(r.1,r.2.1,J1 j a++r.2.2)
 |0,_,w,_=>by simp
 |j+1,hj,w,hw=>by
  have ih:=zEA hk j (by omega) hw;rw[Ju,Kd];have h1:swp x (a::(J1 j a++w))=dK:=by
   cases j with
   |succ j=>simp only[Ju,Kd,swp,if_neg (Jay a)]
   |zero=>
    simp only[Lw,Jq];cases w with
    |nil=>rfl
    |cons b w=>
     have:=hw b rfl;simp only[swp,if_neg (show¬b<a by omega)]
  have h2:pws x (a::(J1 j a++w))=dK:=by
   simp only[pws];refine if_neg fun g=>?_
   have hl:=zCi g;have:=congrArg (fun l=>l[j+1]?) g;rw[G8 (by omega),←Kd,←Ju,Je (by simp),J6,Ku,Ua (by omega)]at this
   grind[List.head?_eq_getElem?]
  simp only[stS];rw[zT1 h1 h2,ih];cases stS x w with
  |none=>rfl
  |some r=>rfl
theorem yAz{k a:Nat}(hk:k<yE x a):stS x (J1 k a)=dK:=by
 have:=zEA hk k (Jk _) (w:=[]) (by simp)
 grind[stS]
theorem zKK:∀{u s:List Nat},(∀a∈u,2≤yE x a)→ ∀{r:zE9},stS x u=dJ r→stS x (u++s)=dJ (r.1,r.2.1++s,r.2.2++s)
 | [],_,_,_,h=>by cases h
 |a::w,s,hu,r,h=>by
  simp only[stS]at h;rw[Kd];simp only[stS];cases e:hdS x (a::w)with
  |some q=>
   grind[yAy]
  |none=>
   rw[e]at h;cases e2:stS x w with
   |none=>grind
   |some q=>
    rw[e2]at h;cases h;obtain⟨n1,n2⟩:=zPM e;have m1:swp x (a::(w++s))=dK:=by
     cases w with
     |nil=>cases e2
     |cons b w=>exact zFs n1
    have m2:pws x (a::(w++s))=dK:=by
     simp only[pws]at n2 ⊢
     refine if_neg fun g=>?_
     by_cases hl:yE x a≤(a::w).length
     ·grind
     ·have:a::w=J1 (a::w).length a:=by
       have g':=congrArg (Qq (a::w).length) g
       grind
      grind[yAz]
    rw[zT1 m1 m2,zKK (s:=s) (by grind) e2];rfl
theorem zG5{u s:List Nat}(hu:∀a∈u,2≤yE x a)(h:stS x (u++s)=dK):stS x u=dK:=by
 cases e:stS x u with
 |none=>rfl
 |some r=>grind[zKK]
theorem zT2:∀{u:List Nat}{l i:Nat}{z:List Nat},(∀a∈u,i<a)→i<l→stS x (u++[l])=dK→stS x (u++l::i::z)=dJ (base x.zA.length i+(l-(i+1)),z,u++i::(nw 0 (lcj x i l)++z))
 | [],l,i,z,_,hl,_=>by simp only[Jq,stS,hdS,swp,if_pos hl]
 |a::u,l,i,z,hu,hl,hn=>by
  rw[Kd]at hn ⊢
  simp only[stS]at hn ⊢
  cases e:hdS x (a::(u++[l]))with
  |some q=>grind
  |none=>
   rw[e]at hn;have me:stS x (u++[l])=dK:=by simp_all
   obtain⟨n1,n2⟩:=zPM e;have m1:swp x (a::(u++l::i::z))=dK:=by
    cases u with
    |nil=>exact zFs n1
    |cons b u=>exact zFs n1
   have m2:pws x (a::(u++l::i::z))=dK:=by
    simp only[pws]at n2 ⊢
    refine if_neg fun g=>?_
    have ea:a::(u++l::i::z)=(a::(u++[l]))++i::z:=by simp
    by_cases ho:yE x a≤(a::(u++[l])).length
    ·grind
    ·have g':=congrArg (fun w=>w[(a::(u++[l])).length]?) g
     rw[G8 (by omega),ea,Je (Jk _),Ku,Ua (by omega)]at g';have:i=a:=by grind
     simp_all
   rw[zT1 m1 m2,zT2 (by grind) hl me];rfl
theorem zYL{a:Nat}(ha:2≤yE x a)(w:List Nat):stS x (J1 (yE x a) a++w)=dJ (a,w,nw 0 (x.zJ.getD a [])++w):=by
 obtain⟨k,hk⟩:∃k,yE x a=k+2:=⟨yE x a-2,by omega⟩;have e:J1 (yE x a) a++w=a::a::(J1 k a++w):=by grind
 have h1:swp x (J1 (yE x a) a++w)=dK:=by rw[e];simp only[swp,if_neg (Jay a)]
 have h2:pws x (J1 (yE x a) a++w)=dJ (a,w,nw 0 (x.zJ.getD a [])++w):=by
  have et:(J1 (yE x a) a++w).take (yE x a)=J1 (yE x a) a:=by simp
  have ed:(J1 (yE x a) a++w).drop (yE x a)=w:=by simp
  rw[e]at et ed ⊢
  simp only[pws]
  grind
 have h3:hdS x (J1 (yE x a) a++w)=dJ (a,w,nw 0 (x.zJ.getD a [])++w):=by grind[hdS]
 grind[stS]
end
end Go.Pl

namespace Go.Pl
open Go Go.Ab Go.Wk Go.Pc
theorem zDO{p:Int}{D:Nat}{u v w:List Int}:adv p D (adv p D u v) w=adv p D u (adv p D v w):=by
 refine yA fun j hj=>?_
 grind[yC,Qu]
theorem zFt{p:Int}{D:Nat}{u v:List Int}{A:Mx}:xJ p D (adv p D u v) A=adv p D (xJ p D u A) (xJ p D v A):=by
 refine yA fun j hj=>?_
 rw[xJ,xJ,yC hj,yC hj,←K9,←zDp];refine zAA fun l hl=>?_
 rw[yC hl,←Int.add_mul,Jv,Jz,←Jv]
theorem zMA{α:Type}(m:α→α→α)(z:α):∀(cs:List α)(j n:Nat)(acc:α),j<cs.length→j<n→img m cs (yZ n j) acc=m acc (cs.getD j z)
 | [],_,_,_,h,_=>by simp at h
 |c::cs,0,n+1,acc,_,_=>by grind[zDF,img,iter,qB]
 |c::cs,j+1,n+1,acc,h,h2=>by rw[zFP];show img m cs (yZ n j) (iter (0:Int).toNat (fun v=>m v c) acc)=_;rw[show iter (0:Int).toNat (fun v=>m v c) acc=acc from rfl,zMA m z cs j n acc (by grind) (by omega),List.getD_cons_succ]
 |_::_,0,0,_,_,h=>by omega
 |_::_,_+1,0,_,_,h=>by omega
theorem zGg(n d:Nat):zeros (n+d)=zeros n++zeros d:=by grind[zeros,Jl]
theorem zT3{n d j:Nat}(hj:j<n):yZ (n+d) j=yZ n j++zeros d:=by grind[yZ,zGg,zV]
def fo(e:SPr)(k:Nat)(u:Vec)(w:List Nat):Vec:=w.foldl (fun u a=>mul (suf e k) u (yZ (e.zA.length-k) (a-k))) u
theorem zDy{e:SPr}{k:Nat}{u:Vec}{v w:List Nat}:fo e k u (v++w)=fo e k (fo e k u v) w:=by simp[fo,G5]
theorem sL{e:SPr}{k:Nat}{u:Vec}{a:Nat}{w:List Nat}:fo e k u (a::w)=fo e k (mul (suf e k) u (yZ (e.zA.length-k) (a-k))) w:=rfl
theorem yA0{e:SPr}{k a:Nat}(ha:k<a)(hn:a<e.zA.length){b:Int}{y:Vec}(hb:b<at0 e.zA k):mul (suf e k) (b::y) (yZ (e.zA.length-k) (a-k))=b::mul (suf e (k+1)) y (yZ (e.zA.length-(k+1)) (a-(k+1))):=by obtain⟨t,ht⟩:∃t,a-k=t+1:=⟨a-(k+1),by omega⟩;obtain⟨s,hs⟩:∃s,e.zA.length-k=s+1:=⟨e.zA.length-(k+1),by omega⟩;rw[zY (x:=e) (by omega),ht,hs,zFP,yP,if_neg (by show¬(b+0≥at0 e.zA k);omega),show a-(k+1)=t from by omega,show e.zA.length-(k+1)=s from by omega,Lu];rfl
theorem yA1{e:SPr}{k:Nat}(hn:k<e.zA.length){b:Int}{y:Vec}:mul (suf e k) (b::y) (yZ (e.zA.length-k) (k-k))=if b+1≥at0 e.zA k then(b+1-at0 e.zA k)::mul (suf e (k+1)) (lvl e k).w (mul (suf e (k+1)) (sig (suf e (k+1)) (lvl e k) y) (zeros (e.zA.length-(k+1))))else(b+1)::mul (suf e (k+1)) (sig (suf e (k+1)) (lvl e k) y) (zeros (e.zA.length-(k+1))):=by obtain⟨s,hs⟩:∃s,e.zA.length-k=s+1:=⟨e.zA.length-(k+1),by omega⟩;rw[zY (x:=e) hn,hs,Ku,zDF,yP,show e.zA.length-(k+1)=s from by omega];rfl
section
variable {D:Nat}{x:SPr}{m:zC}{T:Mx} (h:Pres x) (hE:ExB x.zA.length D x m T) (hT:∀i,i<T.length→Row m.Prime D (T.getD i []))
 include h hE hT
theorem yA2{k:Nat}(hk:k≤x.zA.length){e:Vec}(he:V (suf (exx D x m T) k) e):mul (suf (exx D x m T) k) e (zeros ((exx D x m T).zA.length-k))=e:=by have hp:=hE.m.p.pos;obtain⟨y,u,rfl,hy,hu⟩:=(sK h hE hT (x.zA.length-k) k (by omega) _).1 he;have:=zFq h hE hT (x.zA.length-k) k (by omega) y u (zeros D) hy hu (xC (by omega));rw[zBq hu]at this;rw[xM h hE hT,show x.zA.length+D-k=(x.zA.length-k)+D from by omega,zGg];exact this
def adK(p:Int)(D N:Nat)(e d:Vec):Vec:=e.take N++adv p D (e.drop N) d
theorem zKL{k:Nat}(hk:k≤x.zA.length){e d:Vec}(he:V (suf (exx D x m T) k) e)(hd:Row m.Prime D d):adK m.Prime D (x.zA.length-k) e d=mul (suf (exx D x m T) k) e (zeros (x.zA.length-k)++d):=by
 obtain⟨y,u,rfl,hy,hu⟩:=(sK h hE hT (x.zA.length-k) k (by omega) _).1 he
 grind[wR,zFq,adK]
theorem yA3{k:Nat}(hk:k≤x.zA.length){e d:Vec}(he:V (suf (exx D x m T) k) e):V (suf (exx D x m T) k) (adK m.Prime D (x.zA.length-k) e d):=by have hp:=hE.m.p.pos;obtain⟨y,u,rfl,hy,hu⟩:=(sK h hE hT (x.zA.length-k) k (by omega) _).1 he;have e7:=wR h (by omega) hy;rw[adK,Jp e7,Jx e7];exact(sK h hE hT (x.zA.length-k) k (by omega) _).2 ⟨y,_,rfl,hy,qE (by omega)⟩
theorem zYM{k:Nat}(hk:k≤x.zA.length){e d d':Vec}(he:V (suf (exx D x m T) k) e):adK m.Prime D (x.zA.length-k) (adK m.Prime D (x.zA.length-k) e d) d'=adK m.Prime D (x.zA.length-k) e (adv m.Prime D d d'):=by obtain⟨y,u,rfl,hy,hu⟩:=(sK h hE hT (x.zA.length-k) k (by omega) _).1 he;have e7:=wR h (by omega) hy;simp only[adK,Jp e7,Jx e7,zDO]
theorem zBA{k:Nat}(hk:k<x.zA.length){b:Int}{e d:Vec}:adK m.Prime D (x.zA.length-k) (b::e) d=b::adK m.Prime D (x.zA.length-(k+1)) e d:=by have _:=h;have _:=hE;have _:=hT;rw[show x.zA.length-k=x.zA.length-(k+1)+1 from by omega];rfl
theorem zD{k:Nat}(hk:k≤x.zA.length){d:Vec}(hd:Row m.Prime D d):V (suf (exx D x m T) k) (zeros (x.zA.length-k)++d):=
 (sK h hE hT (x.zA.length-k) k (by omega) _).2 ⟨_,d,rfl,zv h hE hT hk,hd⟩
theorem zYN{k a:Nat}(hk:k≤a)(ha:a<x.zA.length):V (suf x k) (yZ (x.zA.length-k) (a-k)):=by
 have _:=hE;have _:=hT;have:=zDf (h.okAt (k:=k) (by omega)) (j:=a-k) (by grind[yH])
 grind[yH]
theorem zQV{k a:Nat}(hk:k≤a)(ha:a<x.zA.length):yZ ((exx D x m T).zA.length-k) (a-k)=yZ (x.zA.length-k) (a-k)++zeros D:=by rw[xM h hE hT,show x.zA.length+D-k=x.zA.length-k+D from by omega,zT3 (by omega)]
theorem zDz{k a:Nat}(hk:k≤a)(ha:a<x.zA.length):V (suf (exx D x m T) k) (yZ ((exx D x m T).zA.length-k) (a-k)):=by have hp:=hE.m.p.pos;rw[zQV h hE hT hk ha];exact(sK h hE hT (x.zA.length-k) k (by omega) _).2 ⟨_,_,rfl,zYN h hE hT hk ha,xC (by omega)⟩
theorem zWN{k a:Nat}(hk:k≤a)(ha:a<x.zA.length):aM m D k (yZ (x.zA.length-k) (a-k))=m.zG.getD a []:=by have _:=h;have _:=hT;have hA:=hE.m.mat a ha;have hl:=hE.m.len;unfold aM;rw[zMA (PM m.Prime D) [] _ _ _ _ (by grind) (by omega),J3,Lm,show k+(a-k)=a from by omega,←J3,zCy hA]
variable {k:Nat} (hk:k<x.zA.length) (hc:xK (suf (exx D x m T) (k+1)))
 include hk hc
theorem zYO{a:Nat}(h1:k+1≤a)(ha:a<x.zA.length){e d:Vec}(he:V (suf (exx D x m T) (k+1)) e)(hd:Row m.Prime D d):
  mul (suf (exx D x m T) (k+1)) (adK m.Prime D (x.zA.length-(k+1)) e d) (yZ ((exx D x m T).zA.length-(k+1)) (a-(k+1)))=adK m.Prime D (x.zA.length-(k+1)) (mul (suf (exx D x m T) (k+1)) e (yZ ((exx D x m T).zA.length-(k+1)) (a-(k+1)))) (xJ m.Prime D d (m.zG.getD a [])):=by
 have hp:=hE.m.p.pos;have gz:=vS h hE hT (k:=k+1) (by omega);have G:=(zDh _ gz hc).toMon;have hg:=zDz h hE hT h1 ha;have hgv:=zYN h hE hT h1 ha;have hz:=zD h hE hT (k:=k+1) (by omega) hd;have eM:=zD h hE hT (k:=k+1) (by omega) (wU (p:=m.Prime) (D:=D) (r:=d) (B:=m.zG.getD a []) (by omega));rw[zKL h hE hT (by omega) he hd,G.assoc he hz hg,zQV h hE hT h1 ha,zPJ h hE hT _ (k+1) (by omega) _ _ _ hd hgv (xC (by omega)),zBq (wU (by omega)),zWN h hE hT h1 ha,←zQV h hE hT h1 ha,zKL h hE hT (by omega) (G.cl he hg) (wU (by omega)),G.assoc he hg eM,zQV h hE hT h1 ha,zFq h hE hT _ (k+1) (by omega) _ _ _ hgv (xC (by omega)) (wU (by omega)),vO (wU (by omega))]
 omit hc in
theorem zIw{e d:Vec}(he:V (suf (exx D x m T) (k+1)) e)(_hd:Row m.Prime D d):
    sig (suf (exx D x m T) (k+1)) (lvl (exx D x m T) k) (adK m.Prime D (x.zA.length-(k+1)) e d)=adK m.Prime D (x.zA.length-(k+1)) (sig (suf (exx D x m T) (k+1)) (lvl (exx D x m T) k) e) (xJ m.Prime D d (m.zG.getD k [])):=by
  have hp:=hE.m.p.pos;obtain⟨y,u,rfl,hy,hu⟩:=(sK h hE hT (x.zA.length-(k+1)) (k+1) (by omega) _).1 he;have e7:=wR h (by omega) hy;obtain⟨y1,u1,e,eY,fO⟩:=(sK h hE hT (x.zA.length-(k+1)) (k+1) (by omega) _).1 (zIp h hE hT hk (y:=y));have gL:=wR h (by omega) eY;have e0:adK m.Prime D (x.zA.length-(k+1)) (y++u) d=y++adv m.Prime D u d:=by grind[adK]
  rw[e0,zC7 h hE hT hk hy (qE (by omega)),zC7 h hE hT hk hy hu,e,Jp gL,Jx gL,adK,Jp gL,Jx gL,zFt,zDO]
theorem zMB{z d:Vec}(hz:V (suf (exx D x m T) (k+1)) z)(hd:Row m.Prime D d){w:Vec}(hw:V (suf (exx D x m T) (k+1)) w):
  mul (suf (exx D x m T) (k+1)) w (adK m.Prime D (x.zA.length-(k+1)) z d)=adK m.Prime D (x.zA.length-(k+1)) (mul (suf (exx D x m T) (k+1)) w z) d:=by
 have gz:=vS h hE hT (k:=k+1) (by omega);have G:=(zDh _ gz hc).toMon;rw[zKL h hE hT (by omega) hz hd,zKL h hE hT (by omega) (G.cl hw hz) hd,G.assoc hw hz (by grind[zD])]
 omit hc in
theorem zQW:V (suf (exx D x m T) (k+1)) (lvl (exx D x m T) k).w:=by
  have gz:=vS h hE hT (k:=k) (by omega);rw[zY (x:=exx D x m T) (by grind[xM])]at gz;exact gz.2.1
 omit hc in
theorem zBs{e:Vec}(he:V (suf (exx D x m T) (k+1)) e):V (suf (exx D x m T) (k+1)) (sig (suf (exx D x m T) (k+1)) (lvl (exx D x m T) k) e):=by
  have gz:=vS h hE hT (k:=k) (by omega);rw[zY (x:=exx D x m T) (by grind[xM])]at gz
  grind[zDg]
theorem zG6{b:Int}{e:Vec}(he:V (suf (exx D x m T) (k+1)) e):mul (suf (exx D x m T) k) (b::e) (yZ ((exx D x m T).zA.length-k) (k-k))=if b+1≥at0 x.zA k then(b+1-at0 x.zA k)::mul (suf (exx D x m T) (k+1)) (lvl (exx D x m T) k).w (sig (suf (exx D x m T) (k+1)) (lvl (exx D x m T) k) e)else(b+1)::sig (suf (exx D x m T) (k+1)) (lvl (exx D x m T) k) e:=by have _:=hc;rw[yA1 (by grind[xM]),yA2 h hE hT (by omega) (zBs h hE hT hk he),tC h hE hT hk]
theorem zMC{a:Nat}(h1:k<a)(ha:a<x.zA.length){b:Int}(hb:b<at0 x.zA k){e:Vec}:mul (suf (exx D x m T) k) (b::e) (yZ ((exx D x m T).zA.length-k) (a-k))=b::mul (suf (exx D x m T) (k+1)) e (yZ ((exx D x m T).zA.length-(k+1)) (a-(k+1))):=by have _:=hc;grind[yA0,xM,tC]
theorem yEe{a:Nat}(h1:k≤a)(ha:a<x.zA.length){b:Int}(hb:b<at0 x.zA k){e d:Vec}(he:V (suf (exx D x m T) (k+1)) e)(hd:Row m.Prime D d):
  mul (suf (exx D x m T) k) (b::adK m.Prime D (x.zA.length-(k+1)) e d) (yZ ((exx D x m T).zA.length-k) (a-k))=adK m.Prime D (x.zA.length-k) (mul (suf (exx D x m T) k) (b::e) (yZ ((exx D x m T).zA.length-k) (a-k))) (xJ m.Prime D d (m.zG.getD a [])):=by
 have hp:=hE.m.p.pos;rcases Jn k a with g|g
 ·rw[zMC h hE hT hk hc g ha hb,zMC h hE hT hk hc g ha hb,zYO h hE hT hk hc g ha he hd,zBA h hE hT hk]
 ·obtain rfl:a=k:=by omega
  rw[zG6 h hE hT hk hc (by grind[yA3]),zG6 h hE hT hk hc he,zIw h hE hT hk he hd];split
  ·rw[zMB h hE hT hk hc (zBs h hE hT hk he) (wU (by omega)) (zQW h hE hT hk),zBA h hE hT hk]
  grind[zBA]
theorem yCS{a:Nat}(h1:k≤a)(ha:a<x.zA.length){e:Vec}(he:V (suf (exx D x m T) k) e):V (suf (exx D x m T) k) (mul (suf (exx D x m T) k) e (yZ ((exx D x m T).zA.length-k) (a-k))):=by have _:=hc;grind[yV,vS,zDz]
theorem yEf:∀{w:List Nat},(∀a∈w,k≤a∧a<x.zA.length)→ ∀{e:Vec},V (suf (exx D x m T) k) e→V (suf (exx D x m T) k) (fo (exx D x m T) k e w)
 | [],_,_,he=>he
 |a::w,hw,e,he=>by rw[sL];exact yEf (by grind) (by grind[yCS])
theorem zPN:∀{w:List Nat},(∀a∈w,k≤a∧a<x.zA.length)→ ∀{e d:Vec},V (suf (exx D x m T) k) e→Row m.Prime D d→fo (exx D x m T) k (adK m.Prime D (x.zA.length-k) e d) w=adK m.Prime D (x.zA.length-k) (fo (exx D x m T) k e w) (xJ m.Prime D d (wM m.Prime D m.zG w (idM D)))
 | [],_,e,d,_,hd=>by show adK _ _ _ e d=adK _ _ _ e (xJ m.Prime D d (idM D));rw[kL hd]
 |a::w,hw,e,d,he,hd=>by
  have hp:=hE.m.p.pos;obtain⟨a1,a2⟩:=hw a (by simp);have hA:=hE.m.mat a a2;have dn:=he;rw[zY (x:=exx D x m T) (by grind[xM])]at dn;cases e with
  |nil=>exact dn.elim
  |cons b e=>
   obtain⟨⟨b0,b1⟩,he1⟩:=dn;have b2:b<at0 x.zA k:=by rw[←tC h hE hT hk];exact b1
   rw[sL,sL,zBA h hE hT hk,yEe h hE hT hk hc a1 a2 b2 he1 hd,zPN (by grind) (by grind[yCS]) (wU (by omega)),zFp hA.1]
   congr 2
   show PM _ _ _ (wM m.Prime D m.zG w (idM D))=wM m.Prime D m.zG w (PM m.Prime D (idM D) (m.zG.getD a []));rw[←zIa (by omega) hA.1 w (sG (by omega)),zDs hA,zCy hA]
end
end Go.Pl

namespace Go.Pl
open Go Go.Ab Go.Wk Go.Pc
inductive Col (x:SPr) (k:Nat):List Nat→List (Nat×List Nat)→List Nat→Prop where
 |refl (w:List Nat):Col x k w [] w
 |step {w w1 w' s:List Nat}{r:Nat}{tr:List (Nat×List Nat)} (hw:∀a∈w,k≤a∧a<x.zA.length) (hs:stS x w=dJ (r,s,w1)) (h:Col x k w1 tr w'):Col x k w ((r,s)::tr) w'
theorem Col.trans{x:SPr}{k:Nat}{w w1 w2:List Nat}{t1 t2:List (Nat×List Nat)}(h:Col x k w t1 w1)(h2:Col x k w1 t2 w2):Col x k w (t1++t2) w2:=by
 induction h with
 |refl w=>exact h2
 |step hw hs _ ih=>exact .step hw hs (ih h2)
def tv(p:Int)(D:Nat)(m:zC)(T:Mx):List (Nat×List Nat)→Vec
 | []=>zeros D
 |(r,s)::t=>adv p D (xJ p D (T.getD r []) (wM p D m.zG s (idM D))) (tv p D m T t)
section
variable {p:Int}{D:Nat}{m:zC}{T:Mx} (hp:2≤p)
 include hp
theorem zKM:∀t,Row p D (tv p D m T t)
 | []=>xC (by omega)
 |(_,_)::_=>qE (by omega)
theorem zIx:∀t u,tv p D m T (t++u)=adv p D (tv p D m T t) (tv p D m T u)
 | [],u=>(vO (zKM hp u)).symm
 |(r,s)::t,u=>by show adv p D _ (tv p D m T (t++u))=adv p D (adv p D _ _) _;rw[zIx t u,zDO]
theorem yA4{A:List Mx}{u v:List Nat}:wM p D A (u++v) (idM D)=PM p D (wM p D A u (idM D)) (wM p D A v (idM D)):=by have hu:=zC0 (D:=D) (A:=A) (show 0<p by omega) u (sG hp);rw[zDJ,←zIa (by omega) hu.1 v (sG hp),zDs hu]
theorem zFu{A:List Mx}{u v:List Nat}{r:Vec}:xJ p D r (wM p D A (u++v) (idM D))=xJ p D (xJ p D r (wM p D A u (idM D))) (wM p D A v (idM D)):=by have hu:=zC0 (D:=D) (A:=A) (show 0<p by omega) u (sG hp);rw[yA4 hp,zFp hu.1]
theorem zT4(z:List Nat):∀t,tv p D m T (t.map fun q=>(q.1,q.2++z))=xJ p D (tv p D m T t) (wM p D m.zG z (idM D))
 | []=>zBr.symm
 |(r,s)::t=>by show adv p D (xJ p D (T.getD r []) (wM p D m.zG (s++z) (idM D))) (tv p D m T (t.map fun q=>(q.1,q.2++z)))=xJ p D (adv p D _ (tv p D m T t)) _;rw[zT4 z t,zFt,zFu hp]
end
section
variable {x:SPr} (h:Pres x)
 include h
theorem zMD{a:Nat}(ha:a<x.zA.length):2≤yE x a:=by
 have:=(h.os.2 a ha).pos
 grind
theorem sW{v:List Int}{i:Nat}(hv:Exp x.zA v i)(hi:i<x.zA.length):nw 0 v=nw (i+1) (v.drop (i+1))∧ ∀a∈nw 0 v,i+1≤a∧a<x.zA.length:=by
 have _:=h;have e:=zBd hv hi;have e1:nw 0 v=nw (i+1) (v.drop (i+1)):=by rw[e,zDI,zDx,zV,Jq,Jd,Jx (by rw[zV])]
 refine⟨e1,fun a ha=>?_⟩;rw[e1]at ha;refine⟨?_,zMr (n:=x.zA.length) (i+1) _ (by rw[Kr,hv.1.1];omega) a ha⟩
 clear e e1 hv
 generalize v.drop (i+1)=y at ha
 generalize i+1=o at ha ⊢
 clear hi
 induction y generalizing o with
 |nil=>grind[nw]
 |cons b y ih=>
  grind[nw]
theorem vY{i j:Nat}(hi:i<j)(hj:j<x.zA.length):Exp x.zA (lcj x i j) i:=by have g:=(h.tl i (by omega)).2.1;exact(h.tl i (by omega)).2.2 (j-(i+1)) (by omega)
theorem kM{i:Nat}(hi:i<x.zA.length):Exp x.zA (x.zJ.getD i []) i:=(h.tl i hi).1
theorem zT5:∀(o:Nat)(y:Vec),∀a∈nw o y,o≤a
 |_,[],a,ha=>by grind[nw]
 |o,b::y,a,ha=>by
  have _:=h;simp only[nw,Jf]at ha;rcases ha with ha|ha
  ·grind
  ·have:=zT5 (o+1) y a ha;omega
theorem zPO{k:Nat}{y:Vec}(hk:k≤x.zA.length)(hy:V (suf x k) y):∀a∈nw k y,k≤a∧a<x.zA.length:=fun a ha=>
 ⟨zT5 h k y a ha,zMr (n:=x.zA.length) k y (by grind[wR]) a ha⟩
theorem zGh:∀(d k:Nat),k+d=x.zA.length→ ∀y,V (suf x k) y→stS x (nw k y)=dK
 |0,k,hk,y,hy=>by rw[vA (x:=x) (k:=k) (by omega)]at hy;obtain rfl:y=[]:=hy;rfl
 |d+1,k,hk,y,hy=>by
  rw[zY (x:=x) (by omega)]at hy;cases y with
  |nil=>rfl
  |cons b y=>
   obtain⟨⟨b0,b1⟩,hy⟩:=hy;change b<at0 x.zA k at b1;simp only[nw];have gF:b.toNat<yE x k:=by grind
   rw[zEA gF b.toNat (Jk _) fun a ha=>?_,zGh d (k+1) (by omega) y hy]
   ·rfl
   ·have:=zT5 h (k+1) y a (by grind[Qi])
    omega
theorem Col.ctx{i a:Nat}(hi:i<x.zA.length)(ha:a<yE x i){s:List Nat}(hs:∀b∈s,i≤b∧b<x.zA.length){w w':List Nat}{tr:List (Nat×List Nat)}(hc:Col x (i+1) w tr w'):
  Col x i (J1 a i++(w++s)) (tr.map fun q=>(q.1,q.2++s)) (J1 a i++(w'++s)):=by
 induction hc with
 |refl w=>exact .refl _
 | @step w w1 w' s1 r tr hw gG _ ih=>
  refine .step (fun b hb=>?_) ?_ ih
  ·grind
  ·rw[zEA ha a (Jk _) fun b hb=>?_,zKK (by grind[zMD]) gG]
   ·rfl
   ·cases w with
    |nil=>cases gG
    |cons c w=>
     simp only[Kd,Jae,Ll.injEq]at hb;have:=hw c (by simp);omega
def cwd(x:SPr)(i:Nat):List Nat→List Nat
 | []=>[]
 |l::ur=>cwd x i ur++nw 0 (lcj x i l)
def mtr(x:SPr)(i:Nat):List Nat→List Nat→List (Nat×List Nat)
 | [],_=>[]
 |l::ur,z=>(base x.zA.length i+(l-(i+1)),z)::mtr x i ur (nw 0 (lcj x i l)++z)
theorem zKN{i:Nat}:∀{ur:List Nat},(∀b∈ur,i+1≤b∧b<x.zA.length)→ ∀b∈cwd x i ur,i+1≤b∧b<x.zA.length
 | [],_,b,hb=>by grind[cwd]
 |l::ur,hu,b,hb=>by
  simp only[cwd,Jf]at hb;obtain⟨l1,l2⟩:=hu l (by simp);rcases hb with hb|hb
  ·exact zKN (by grind) b hb
  ·exact(sW h (vY h (by omega) l2) (by omega)).2 b hb
theorem Col.move{i a:Nat}(hi:i<x.zA.length)(ha:a<yE x i):∀{ur:List Nat},(∀b∈ur,i+1≤b∧b<x.zA.length)→stS x ur.reverse=dK→ ∀{z:List Nat},(∀b∈z,i≤b∧b<x.zA.length)→
  Col x i (J1 a i++(ur.reverse++i::z)) (mtr x i ur z) (J1 (a+1) i++(cwd x i ur++z))
 | [],_,_,z,_=>by
  have e:J1 a i++(([]:List Nat).reverse++i::z)=J1 (a+1) i++(cwd x i []++z):=by grind[Kw,cwd]
  rw[e];exact .refl _
 |l::ur,hu,hn,z,hz=>by
  obtain⟨l1,l2⟩:=hu l (by simp);have c8:∀b∈ur,i+1≤b∧b<x.zA.length:=by grind
  have ck:=sW h (vY h (show i<l by omega) l2) hi;rw[Gt]at hn ⊢
  have me:=zG5 (by grind[zMD]) hn;have eM:∀b∈nw 0 (lcj x i l)++z,i≤b∧b<x.zA.length:=by grind
  have ih:=Col.move hi ha c8 me eM;rw[show cwd x i (l::ur)++z=cwd x i ur++(nw 0 (lcj x i l)++z)from by simp[cwd]];have e1:ur.reverse++[l]++i::z=ur.reverse++l::i::z:=by simp
  rw[e1];refine .step (fun b hb=>?_) ?_ ih
  ·simp only[Jf,J9,List.mem_reverse]at hb
   rcases hb with hb|hb|hb|hb|hb
   ·grind
   ·grind
   ·omega
   all_goals grind
  ·rw[zEA ha a (Jk _) fun b hb=>?_,zT2 (by grind) (by omega) hn]
   ·rfl
   ·have:b∈ur.reverse++l::i::z:=by grind[Qi]
    cases e:ur.reverse with
    |nil=>grind
    |cons c t=>
     grind
end
end Go.Pl

namespace Go.Pl
open Go Go.Ab Go.Wk Go.Pc
theorem zIy{α:Type}(m:α→α→α)(c:Nat→α)(z:α):∀(cs:List α)(v:Vec)(o:Nat)(acc:α),(∀j,j<cs.length→cs.getD j z=c (o+j))→v.length≤cs.length→img m cs v acc=(nw o v).foldl (fun acc j=>m acc (c j)) acc
 |cs,[],o,acc,_,_=>by cases cs<;>rfl
 | [],_::_,_,_,_,h=>by simp at h
 |a::cs,b::v,o,acc,hc,hl=>by
  have h0:=hc 0 (by simp);simp only[H6,Jad]at h0;have e:∀(k:Nat)(u:α),(J1 k o).foldl (fun acc j=>m acc (c j)) u=iter k (fun v=>m v a) u:=by
   intro k
   induction k with
   |zero=>intro u;rfl
   |succ k ih=>intro u;rw[Ju,G1,ih,h0];rfl
  show img m cs v (iter b.toNat (fun v=>m v a) acc)=_;simp only[nw,G5];rw[e,zIy m c z cs v (o+1) _ (fun j hj=>by have:=hc (j+1) (by grind);grind) (by grind)]
theorem map_drop{l:List (List Int)}{n i:Nat}:(l.map (·.drop n)).getD i []=(l.getD i []).drop n:=by grind
section
variable {D:Nat}{x:SPr}{m:zC}{T:Mx} (h:Pres x) (hE:ExB x.zA.length D x m T) (hT:∀i,i<T.length→Row m.Prime D (T.getD i []))
 include h hE hT
theorem zWO{k:Nat}(hk:k<x.zA.length)(hc:xK (suf (exx D x m T) k)):xK (suf (exx D x m T) (k+1)):=by rw[zY (x:=exx D x m T) (by grind[xM])]at hc;exact hc.1
theorem zOg{k:Nat}(hk:k≤x.zA.length):V (suf (exx D x m T) k) (zeros ((exx D x m T).zA.length-k)):=by grind[xU,vS,yH]
theorem zIz{k:Nat}(hk:k≤x.zA.length):zeros ((exx D x m T).zA.length-k)=zeros (x.zA.length-k)++zeros D:=by rw[xM h hE hT,show x.zA.length+D-k=x.zA.length-k+D from by omega,zGg]
theorem zDY{k:Nat}(hk:k≤x.zA.length){y u:Vec}(hy:V (suf x k) y)(hu:Row m.Prime D u):V (suf (exx D x m T) k) (y++u):=
 (sK h hE hT (x.zA.length-k) k (by omega) _).2 (by grind)
theorem zAe{k:Nat}(hk:k≤x.zA.length){y u d:Vec}(hy:V (suf x k) y):adK m.Prime D (x.zA.length-k) (y++u) d=y++adv m.Prime D u d:=by have _:=hE;have _:=hT;have e7:=wR h hk hy;rw[adK,Jp e7,Jx e7]
theorem zI0:∀(d k:Nat),k+d=x.zA.length→xK (suf (exx D x m T) k)→ ∀y,V (suf x k) y→fo (exx D x m T) k (zeros ((exx D x m T).zA.length-k)) (nw k y)=y++zeros D
 |0,k,hk,_,y,hy=>by rw[vA (x:=x) (k:=k) (by omega)]at hy;obtain rfl:y=[]:=hy;rw[zIz h hE hT (by omega),show x.zA.length-k=0 from by omega];rfl
 |d+1,k,hk,hc,y,hy=>by
  have fc:=zWO h hE hT (by omega) hc;have ih:=zI0 d (k+1) (by omega) fc;rw[zY (x:=x) (by omega)]at hy;cases y with
  |nil=>exact hy.elim
  |cons b y=>
   obtain⟨⟨b0,b1⟩,hy⟩:=hy;change b<at0 x.zA k at b1;have p8:k<x.zA.length:=by omega
   have hz:=zOg h hE hT (k:=k+1) (by omega);simp only[nw];rw[zDy];have e1:∀c:Nat,(c:Int)<at0 x.zA k→fo (exx D x m T) k (zeros ((exx D x m T).zA.length-k)) (J1 c k)=(c:Int)::zeros ((exx D x m T).zA.length-(k+1)):=by
    intro c
    induction c with
    |zero=>
     intro _;have hl:=xM h hE hT;rw[show(exx D x m T).zA.length-k=(exx D x m T).zA.length-(k+1)+1 from by omega];rfl
    |succ c ihc=>
     intro gA;rw[Kw,zDy,ihc (by omega)];show mul _ _ _=_;rw[zG6 h hE hT p8 fc hz,if_neg (by omega)];have:sig (suf (exx D x m T) (k+1)) (lvl (exx D x m T) k) (zeros ((exx D x m T).zA.length-(k+1)))=zeros ((exx D x m T).zA.length-(k+1)):=by grind[sig,qB,yH]
     grind
   have e2:∀(w:List Nat)(e:Vec),(∀a∈w,k+1≤a∧a<x.zA.length)→fo (exx D x m T) k (b::e) w=b::fo (exx D x m T) (k+1) e w:=by
    intro w
    induction w with
    |nil=>intro e _;rfl
    |cons a w ihw=>
     intro e hw;rw[sL,zMC h hE hT p8 fc (hw a (by simp)).1 (hw a (by simp)).2 b1,ihw _ (by grind)];rfl
   have:=e1 b.toNat (by omega);rw[this,show((b.toNat:Nat):Int)=b from by omega,e2 _ _ fun a ha=>zPO h (by omega) hy a ha,ih y hy];rfl
variable {k:Nat} (hk:k<x.zA.length) (hc:xK (suf (exx D x m T) (k+1)))
 include hk hc
theorem zI1{b:Int}(hb:b<at0 x.zA k):∀(w:List Nat)(e:Vec),(∀a∈w,k+1≤a∧a<x.zA.length)→fo (exx D x m T) k (b::e) w=b::fo (exx D x m T) (k+1) e w
 | [],e,_=>rfl
 |a::w,e,hw=>by rw[sL,zMC h hE hT hk hc (hw a (by simp)).1 (hw a (by simp)).2 hb,zI1 hb w _ (by grind)];rfl
 omit hc in
theorem zQX:∀{w:List Nat},(∀a∈w,k+1≤a∧a<x.zA.length)→ ∀{e:Vec},V (suf (exx D x m T) (k+1)) e→V (suf (exx D x m T) (k+1)) (fo (exx D x m T) (k+1) e w)
  | [],_,_,he=>he
  |a::w,hw,e,he=>by rw[sL];exact zQX (fun b hb=>hw b (by simp[hb])) (yV (vS h hE hT (by omega)) he (zDz h hE hT (hw a (by simp)).1 (hw a (by simp)).2))
theorem zT6:∀{w:List Nat},(∀a∈w,k+1≤a∧a<x.zA.length)→ ∀{e d:Vec},V (suf (exx D x m T) (k+1)) e→Row m.Prime D d→fo (exx D x m T) (k+1) (adK m.Prime D (x.zA.length-(k+1)) e d) w=adK m.Prime D (x.zA.length-(k+1)) (fo (exx D x m T) (k+1) e w) (xJ m.Prime D d (wM m.Prime D m.zG w (idM D)))
 | [],_,e,d,_,hd=>by show adK _ _ _ e d=adK _ _ _ e (xJ m.Prime D d (idM D));rw[kL hd]
 |a::w,hw,e,d,he,hd=>by
  have hp:=hE.m.p.pos;obtain⟨a1,a2⟩:=hw a (by simp);have hA:=hE.m.mat a a2;rw[sL,sL,zYO h hE hT hk hc a1 a2 he hd,zT6 (by grind) (by grind[yV,vS,zDz]) (wU (by omega)),zFp hA.1]
  congr 2
  show PM _ _ _ (wM m.Prime D m.zG w (idM D))=wM m.Prime D m.zG w (PM m.Prime D (idM D) (m.zG.getD a []));rw[←zIa (by omega) hA.1 w (sG (by omega)),zDs hA,zCy hA]
theorem zT7:∀{w:List Nat},(∀a∈w,k+1≤a∧a<x.zA.length)→ ∀{e f:Vec},V (suf (exx D x m T) (k+1)) e→V (suf (exx D x m T) (k+1)) f→fo (exx D x m T) (k+1) (mul (suf (exx D x m T) (k+1)) e f) w=mul (suf (exx D x m T) (k+1)) e (fo (exx D x m T) (k+1) f w)
 | [],_,_,_,_,_=>rfl
 |a::w,hw,e,f,he,hf=>by have gz:=vS h hE hT (k:=k+1) (by omega);have G:=(zDh _ gz hc).toMon;have hg:=zDz h hE hT (hw a (by simp)).1 (hw a (by simp)).2;rw[sL,sL,G.assoc he hf hg,zT7 (by grind) he (G.cl hf hg)]
theorem zI2{w:List Nat}(hw:∀a∈w,k+1≤a∧a<x.zA.length){e:Vec}(he:V (suf (exx D x m T) (k+1)) e):fo (exx D x m T) (k+1) e w=mul (suf (exx D x m T) (k+1)) e (fo (exx D x m T) (k+1) (zeros ((exx D x m T).zA.length-(k+1))) w):=by rw[←zT7 h hE hT hk hc hw he (by grind[zOg]),yA2 h hE hT (by omega) he]
def dm(p:Int)(D:Nat)(x:SPr)(m:zC)(T:Mx)(k:Nat):List Nat→Vec
 | []=>zeros D
 |l::ur=>adv p D (xJ p D (dm p D x m T k ur) (wM p D m.zG (nw 0 (lcj x k l)) (idM D))) (T.getD (base x.zA.length k+(l-(k+1))) [])
 omit h hE hT hk hc in
theorem zOh(hp:2≤m.Prime):∀ur,Row m.Prime D (dm m.Prime D x m T k ur)
  | []=>xC (by omega)
  |_::_=>qE (by omega)
 omit h hE hT hk hc in
theorem zOi(hp:2≤m.Prime):∀(ur:List Nat)(z:List Nat),tv m.Prime D m T (mtr x k ur z)=xJ m.Prime D (dm m.Prime D x m T k ur) (wM m.Prime D m.zG z (idM D))
  | [],z=>zBr.symm
  |l::ur,z=>by show adv m.Prime D _ (tv m.Prime D m T (mtr x k ur (nw 0 (lcj x k l)++z)))=xJ m.Prime D (adv m.Prime D _ _) _;rw[zOi hp ur,zFt,zFu hp,tJ]
theorem zT8:∀{ur:List Nat},(∀b∈ur,k+1≤b∧b<x.zA.length)→ur.reverse.foldl (fun acc j=>mul (suf (exx D x m T) (k+1)) acc ((lvl (exx D x m T) k).cs.getD (j-(k+1)) [])) (zeros ((exx D x m T).zA.length-(k+1)))=
  adK m.Prime D (x.zA.length-(k+1)) (fo (exx D x m T) (k+1) (zeros ((exx D x m T).zA.length-(k+1))) (cwd x k ur)) (dm m.Prime D x m T k ur)
 | [],_=>by have hp:=hE.m.p.pos;show zeros _=adK _ _ _ (zeros _) (zeros D);rw[zIz h hE hT (by omega),zAe h hE hT (by omega) (by grind[zv]),vO (xC (by omega))]
 |l::ur,hu=>by
  have hp:=hE.m.p.pos;obtain⟨l1,l2⟩:=hu l (by simp);have c8:∀b∈ur,k+1≤b∧b<x.zA.length:=by grind
  have gz:=vS h hE hT (k:=k+1) (by omega);have G:=(zDh _ gz hc).toMon;have hz:=zOg h hE hT (k:=k+1) (by omega);have pb:=zKN h c8;have hF:=zQX h hE hT hk pb hz;have ck:=sW h (vY h (show k<l by omega) l2) hk;have gA:V (suf x (k+1)) ((lcj x k l).drop (k+1)):=by grind[kU,vY]
  have mi:(lvl x k).cs.getD (l-(k+1)) []=(lcj x k l).drop (k+1):=map_drop;have ht:=zEm h hE hT (show k<l by omega) l2;have hd:=zOh (D:=D) (x:=x) (m:=m) (T:=T) (k:=k) (by omega) ur;have dh:=zI0 h hE hT (x.zA.length-(k+1)) (k+1) (by omega) hc _ gA;have fS:=zDY h hE hT (k:=k+1) (by omega) gA (xC (p:=m.Prime) (D:=D) (by omega));rw[Gt,G5,zT8 c8];show mul _ (adK _ _ _ _ _) ((lvl (exx D x m T) k).cs.getD (l-(k+1)) [])=_;rw[zIr h hE hT hk l1 l2,mi];have e1:(lcj x k l).drop (k+1)++T.getD (base x.zA.length k+(l-(k+1))) []=adK m.Prime D (x.zA.length-(k+1)) ((lcj x k l).drop (k+1)++zeros D) (T.getD (base x.zA.length k+(l-(k+1))) []):=by grind[zAe,vO]
  have gJ:∀b∈nw (k+1) ((lcj x k l).drop (k+1)),k+1≤b∧b<x.zA.length:=by grind
  have eW:=yA3 h hE hT (k:=k+1) (by omega) hF (d:=dm m.Prime D x m T k ur);rw[e1,zMB h hE hT hk hc fS ht eW,←dh,←zI2 h hE hT hk hc gJ eW,zT6 h hE hT hk hc gJ hF hd,zYM h hE hT (by omega) (zQX h hE hT hk gJ hF),←zDy,←ck.1];rfl
theorem zPP{y:Vec}(hy:V (suf x (k+1)) y):sig (suf (exx D x m T) (k+1)) (lvl (exx D x m T) k) (y++zeros D)=adK m.Prime D (x.zA.length-(k+1)) (fo (exx D x m T) (k+1) (zeros ((exx D x m T).zA.length-(k+1))) (cwd x k (nw (k+1) y).reverse)) (dm m.Prime D x m T k (nw (k+1) y).reverse):=by have hp:=hE.m.p.pos;have e7:=wR h (by omega) hy;have gJ:=zPO h (by omega) hy;rw[←zT8 h hE hT hk hc (by grind),K5,zC7 h hE hT hk hy (xC (by omega)),zBr];obtain⟨y1,u1,e,eY,fO⟩:=(sK h hE hT (x.zA.length-(k+1)) (k+1) (by omega) _).1 (zIp h hE hT hk (y:=y));have gL:=wR h (by omega) eY;rw[e,Jp gL,Jx gL,zBq fO,←e];unfold sgG;rw[yH];refine zIy _ (fun j=>(lvl (exx D x m T) k).cs.getD (j-(k+1)) []) [] _ _ _ _ (fun j hj=>?_) (by grind[qZ]);rw[qZ h hE hT]at hj;rw[show k+1+j-(k+1)=j from by omega,zC6 h hE hT hk,J3,J3,K3 (by grind[qZ])]
end
end Go.Pl

namespace Go.Pl
open Go Go.Ab Go.Wk Go.Pc
section
variable {x:SPr} (h:Pres x)
 include h
theorem zME{D:Nat}{m:zC}{T:Mx}(hE:ExB x.zA.length D x m T)(hT:∀i,i<T.length→Row m.Prime D (T.getD i [])){k:Nat}(hk:k≤x.zA.length)(hc:xK (suf (exx D x m T) k)):xK (suf (exx D x m T) (k+1)):=by
 have hl:=xM h hE hT
 by_cases g:k<x.zA.length+D
 ·rw[zY (x:=exx D x m T) (by omega)]at hc
  exact hc.1
 ·rw[vA (by omega)]at hc ⊢
  exact hc
structure qM (x:SPr) (k:Nat) (z:List Nat) (tr:List (Nat×List Nat)) (y:Vec):Prop where
 col:Col x k z tr (nw k y)
 v:V (suf x k) y
 val:∀(D:Nat)(m:zC)(T:Mx),ExB x.zA.length D x m T→(∀i,i<T.length→Row m.Prime D (T.getD i []))→xK (suf (exx D x m T) (k+1))→fo (exx D x m T) k (zeros ((exx D x m T).zA.length-k)) z=y++tv m.Prime D m T tr
theorem zPQ{k:Nat}(hk:k<x.zA.length)(P:∀v:List Nat,(∀a∈v,k+1≤a∧a<x.zA.length)→ ∃tr y,qM x (k+1) v tr y):∀(z:List Nat),(∀a∈z,k≤a∧a<x.zA.length)→ ∀(a:Nat),a<yE x k→ ∀(v:List Nat),(∀a∈v,k+1≤a∧a<x.zA.length)→
  ∃tr y,Col x k (J1 a k++(v++z)) tr (nw k y)∧V (suf x k) y∧ ∀(D:Nat)(m:zC)(T:Mx),ExB x.zA.length D x m T→(∀i,i<T.length→Row m.Prime D (T.getD i []))→xK (suf (exx D x m T) (k+1))→
   fo (exx D x m T) k ((a:Int)::fo (exx D x m T) (k+1) (zeros ((exx D x m T).zA.length-(k+1))) v) z=y++tv m.Prime D m T tr
 | [],_,a,ha,v,hv=>by
  obtain⟨tr,y,c1,c2,c3⟩:=P v hv;have hc:=Col.ctx h hk ha (s:=[]) (by simp) c1;rw[show(fun q:Nat×List Nat=>(q.1,q.2++[]))=id from by grind,List.map_id,Jb,Jb]at hc;refine⟨tr,(a:Int)::y,?_,?_,fun D m T hE hT hc=>?_⟩
  ·grind[nw]
  ·rw[zY hk]
   refine⟨⟨by omega,?_⟩,c2⟩;show(a:Int)<at0 x.zA k
   grind
  ·rw[c3 D m T hE hT (by grind[zME])];rfl
 |l::z,hz,a,ha,v,hv=>by
  have eM:∀b∈z,k≤b∧b<x.zA.length:=by grind
  obtain⟨l1,l2⟩:=hz l (by simp);have py:(a:Int)<at0 x.zA k:=by grind
  rcases Jn k l with g|g
  ·obtain⟨tr,y,c1,c2,c3⟩:=zPQ hk P z eM a ha (v++[l]) (by grind)
   refine⟨tr,y,by grind,c2,fun D m T hE hT hc=>?_⟩;rw[←c3 D m T hE hT hc,sL,zMC h hE hT hk hc g l2 py,zDy];rfl
  ·obtain rfl:l=k:=by omega
   obtain⟨tr1,y1,c1,c2,c3⟩:=P v hv;have gJ:=zPO h (by omega) c2;have cN:∀b∈(nw (l+1) y1).reverse,l+1≤b∧b<x.zA.length:=by grind
   have k1:=Col.ctx h hk ha (s:=l::z) hz c1;have k2:=Col.move h hk ha cN (by rw[K5];exact zGh h _ _ (by omega:l+1+(x.zA.length-(l+1))=x.zA.length) y1 c2) eM;rw[K5]at k2;have pb:=zKN h cN;have val:∀(D:Nat)(m:zC)(T:Mx)(hE:ExB x.zA.length D x m T)(hT:∀i,i<T.length→Row m.Prime D (T.getD i []))(hc:xK (suf (exx D x m T) (l+1))),
     fo (exx D x m T) l ((a:Int)::fo (exx D x m T) (l+1) (zeros ((exx D x m T).zA.length-(l+1))) v) (l::z)=adK m.Prime D (x.zA.length-l) (fo (exx D x m T) l (mul (suf (exx D x m T) l) ((a:Int)::(y1++zeros D)) (yZ ((exx D x m T).zA.length-l) (l-l))) z) (tv m.Prime D m T (tr1.map fun q=>(q.1,q.2++l::z))):=by
    intro D m T hE hT hc;have hp:=hE.m.p.pos;have ht:=zKM (D:=D) (m:=m) (T:=T) (p:=m.Prime) (by omega) tr1;have b9:=zDY h hE hT (k:=l+1) (by omega) c2 (xC (p:=m.Prime) (D:=D) (by omega));have ta:V (suf (exx D x m T) l) ((a:Int)::(y1++zeros D)):=by rw[zY (x:=exx D x m T) (by rw[xM h hE hT];omega)];refine⟨⟨by omega,?_⟩,b9⟩;show(a:Int)<at0 (exx D x m T).zA l;rw[tC h hE hT hk];exact py
    rw[c3 D m T hE hT (zME h hE hT (by omega) hc),show y1++tv m.Prime D m T tr1=adK m.Prime D (x.zA.length-(l+1)) (y1++zeros D) (tv m.Prime D m T tr1)from by rw[zAe h hE hT (by omega) c2,vO ht],←zBA h hE hT hk,zPN h hE hT hk hc hz ta ht,zT4 (by omega)];rfl
   have foV:∀(D:Nat)(m:zC)(T:Mx)(hE:ExB x.zA.length D x m T)(hT:∀i,i<T.length→Row m.Prime D (T.getD i []))(_hc:xK (suf (exx D x m T) (l+1))),V (suf (exx D x m T) (l+1)) (fo (exx D x m T) (l+1) (zeros ((exx D x m T).zA.length-(l+1))) (cwd x l (nw (l+1) y1).reverse)):=fun D m T hE hT _hc=>zQX h hE hT hk pb (zOg h hE hT (by omega))
   rcases Jn (a+1) (yE x l)with g2|g2
   ·obtain⟨tr2,y2,d1,d2,d3⟩:=zPQ hk P z eM (a+1) g2 (cwd x l (nw (l+1) y1).reverse) pb
    refine⟨_,y2,k1.trans (k2.trans d1),d2,fun D m T hE hT hc=>?_⟩;have hp:=hE.m.p.pos;have b9:=zDY h hE hT (k:=l+1) (by omega) c2 (xC (p:=m.Prime) (D:=D) (by omega));have g3:(a:Int)+1<at0 x.zA l:=by have:a+1<(at0 x.zA l).toNat:=g2;omega
    have hF:=foV D m T hE hT hc;have ta:V (suf (exx D x m T) l) (((a:Int)+1)::fo (exx D x m T) (l+1) (zeros ((exx D x m T).zA.length-(l+1))) (cwd x l (nw (l+1) y1).reverse)):=by rw[zY (x:=exx D x m T) (by rw[xM h hE hT];omega)];refine⟨⟨by omega,?_⟩,hF⟩;show(a:Int)+1<at0 (exx D x m T).zA l;rw[tC h hE hT hk];exact g3
    have hd:=zOh (D:=D) (x:=x) (m:=m) (T:=T) (k:=l) (by omega) (nw (l+1) y1).reverse;have d3':=d3 D m T hE hT hc;rw[show(((a+1:Nat):Int))=(a:Int)+1 from by omega]at d3';rw[val D m T hE hT hc,zG6 h hE hT hk hc b9,if_neg (by omega),zPP h hE hT hk hc c2,←zBA h hE hT hk,zPN h hE hT hk hc eM ta hd,d3',zAe h hE hT (by omega) d2,zAe h hE hT (by omega) d2,←zOi (by omega),zIx (by omega),zIx (by omega),tJ,tJ (u:=tv m.Prime D m T tr2)]
   ·have g4:a+1=yE x l:=by omega
    have p6:=kM h hk;have p7:=sW h p6 hk;have tm:∀b∈nw 0 (x.zJ.getD l [])++cwd x l (nw (l+1) y1).reverse,l+1≤b∧b<x.zA.length:=fun b hb=>by
     simp only[Jf]at hb;rcases hb with hb|hb
     ·exact p7.2 b hb
     ·exact pb b hb
    obtain⟨tr2,y2,d1,d2,d3⟩:=zPQ hk P z eM 0 (by omega) _ tm;rw[Lw,Jq,Jg]at d1;have k3:Col x l (J1 (a+1) l++(cwd x l (nw (l+1) y1).reverse++z)) ((l,cwd x l (nw (l+1) y1).reverse++z)::tr2) (nw l y2):=by
     refine .step (fun b hb=>?_) (by rw[g4];exact zYL (zMD h hk) _) d1;simp only[Jf]at hb;rcases hb with hb|hb|hb
     ·have:=Hc hb;omega
     ·have:=pb b hb;omega
     ·exact eM b hb
    refine⟨_,y2,k1.trans (k2.trans k3),d2,fun D m T hE hT hc=>?_⟩;have hp:=hE.m.p.pos;have b9:=zDY h hE hT (k:=l+1) (by omega) c2 (xC (p:=m.Prime) (D:=D) (by omega));have g3:(a:Int)+1=at0 x.zA l:=by have:a+1=(at0 x.zA l).toNat:=g4;omega
    have hF:=foV D m T hE hT hc;have hd:=zOh (D:=D) (x:=x) (m:=m) (T:=T) (k:=l) (by omega) (nw (l+1) y1).reverse;have ex:=zC8 h hE hT hk;have fN:V (suf x (l+1)) ((x.zJ.getD l []).drop (l+1)):=kU p6 hk;have cZ:=zDY h hE hT (k:=l+1) (by omega) fN (xC (p:=m.Prime) (D:=D) (by omega));have hw:(lvl (exx D x m T) l).w=adK m.Prime D (x.zA.length-(l+1)) ((x.zJ.getD l []).drop (l+1)++zeros D) (T.getD l []):=by rw[zIn h hE hT hk,zAe h hE hT (by omega) fN,vO ex];rfl
    have fA:=zQW h hE hT hk;have hFw:=zQX h hE hT hk tm (zOg h hE hT (by omega));have em:mul (suf (exx D x m T) (l+1)) (lvl (exx D x m T) l).w (fo (exx D x m T) (l+1) (zeros ((exx D x m T).zA.length-(l+1))) (cwd x l (nw (l+1) y1).reverse))=adK m.Prime D (x.zA.length-(l+1)) (fo (exx D x m T) (l+1) (zeros ((exx D x m T).zA.length-(l+1))) (nw 0 (x.zJ.getD l [])++cwd x l (nw (l+1) y1).reverse)) (xJ m.Prime D (T.getD l []) (wM m.Prime D m.zG (cwd x l (nw (l+1) y1).reverse) (idM D))):=by rw[←zI2 h hE hT hk hc pb fA,hw,zT6 h hE hT hk hc pb cZ ex,←zI0 h hE hT _ (l+1) (by omega:l+1+(x.zA.length-(l+1))=x.zA.length) hc _ fN,←zDy,←p7.1]
    have ta:V (suf (exx D x m T) l) ((0:Int)::fo (exx D x m T) (l+1) (zeros ((exx D x m T).zA.length-(l+1))) (nw 0 (x.zJ.getD l [])++cwd x l (nw (l+1) y1).reverse)):=by rw[zY (x:=exx D x m T) (by rw[xM h hE hT];omega)];refine⟨⟨by omega,?_⟩,hFw⟩;show(0:Int)<at0 (exx D x m T).zA l;rw[tC h hE hT hk];omega
    have d3':=d3 D m T hE hT hc;rw[show(((0:Nat):Int))=0 from rfl]at d3';rw[val D m T hE hT hc,zG6 h hE hT hk hc b9,if_pos (by omega),zPP h hE hT hk hc c2,zMB h hE hT hk hc hF hd fA,em,zYM h hE hT (by omega) hFw,g3,Int.sub_self,←zBA h hE hT hk,zPN h hE hT hk hc eM ta (qE (by omega)),d3',zAe h hE hT (by omega) d2,zAe h hE hT (by omega) d2,zFt,←zOi (by omega),←zFu (by omega),zIx (by omega),zIx (by omega)];show y2++adv m.Prime D (adv m.Prime D (tv m.Prime D m T tr2) (adv m.Prime D _ _)) _=y2++adv m.Prime D _ (adv m.Prime D _ (adv m.Prime D _ (tv m.Prime D m T tr2)));rw[tJ,tJ (u:=tv m.Prime D m T tr2),tJ (u:=xJ m.Prime D (T.getD l []) _),zDO]
theorem zWP:∀(d k:Nat),k+d=x.zA.length→ ∀z:List Nat,(∀a∈z,k≤a∧a<x.zA.length)→ ∃tr y,qM x k z tr y
 |0,k,hk,z,hz=>by
  have:z=[]:=by
   cases z with
   |nil=>rfl
   |cons a z=>have:=hz a (by simp);omega
  subst this;refine⟨[],[],.refl _,by rw[vA (x:=x) (k:=k) (by omega)];rfl,fun D m T hE hT _=>?_⟩;show zeros _=[]++zeros D;rw[zIz h hE hT (by omega),show x.zA.length-k=0 from by omega];rfl
 |d+1,k,hk,z,hz=>by have ho:=zMD h (show k<x.zA.length by omega);obtain⟨tr,y,c1,c2,c3⟩:=zPQ h (by omega) (zWP d (k+1) (by omega)) z hz 0 (by omega) [] (by simp);refine⟨tr,y,by grind,c2,fun D m T hE hT hc=>?_⟩;rw[←c3 D m T hE hT hc];have hl:=xM h hE hT;rw[show(exx D x m T).zA.length-k=(exx D x m T).zA.length-(k+1)+1 from by omega];rfl
end
end Go.Pl

namespace Go.Pl
open Go Go.Ab Go.Wk Go.Pc
section
variable {D:Nat}{x:SPr}{m:zC}{T:Mx} (h:Pres x) (hE:ExB x.zA.length D x m T) (hT:∀i,i<T.length→Row m.Prime D (T.getD i []))
 include h hE hT
variable {k:Nat} (hk:k<x.zA.length) (hc:xK (suf (exx D x m T) (k+1)))
 include hk hc
theorem zGW{w1 w2:List Nat}{t1 t2:List (Nat×List Nat)}{y1 y2:Vec}(k1:qM x k w1 t1 y1)(k2:qM x k w2 t2 y2){r1 r2:Nat}{s1 s2:List Nat}{b:Int}{A1 A2:Vec}(hA1:V (suf (exx D x m T) (k+1)) A1)(hA2:V (suf (exx D x m T) (k+1)) A2)
  (v1:fo (exx D x m T) k (zeros ((exx D x m T).zA.length-k)) w1=b::A1)(v2:fo (exx D x m T) k (zeros ((exx D x m T).zA.length-k)) w2=b::A2)
  (ex:(adK m.Prime D (x.zA.length-(k+1)) A1 (xJ m.Prime D (T.getD r1 []) (wM m.Prime D m.zG s1 (idM D)))).take (x.zA.length-(k+1))=(adK m.Prime D (x.zA.length-(k+1)) A2 (xJ m.Prime D (T.getD r2 []) (wM m.Prime D m.zG s2 (idM D)))).take (x.zA.length-(k+1))):
  y1=y2∧(tv m.Prime D m T ((r1,s1)::t1)=tv m.Prime D m T ((r2,s2)::t2)↔adK m.Prime D (x.zA.length-(k+1)) A1 (xJ m.Prime D (T.getD r1 []) (wM m.Prime D m.zG s1 (idM D)))=adK m.Prime D (x.zA.length-(k+1)) A2 (xJ m.Prime D (T.getD r2 []) (wM m.Prime D m.zG s2 (idM D)))):=by
 have _:=hA1;have _:=hA2;have key:∀(w:List Nat)(t:List (Nat×List Nat))(y:Vec)(A:Vec)(r:Nat)(s:List Nat),qM x k w t y→fo (exx D x m T) k (zeros ((exx D x m T).zA.length-k)) w=b::A→
   b::adK m.Prime D (x.zA.length-(k+1)) A (xJ m.Prime D (T.getD r []) (wM m.Prime D m.zG s (idM D)))=y++tv m.Prime D m T ((r,s)::t):=by
  intro w t y A r s kc v;rw[←zBA h hE hT hk,←v,kc.val D m T hE hT hc,zAe h hE hT (by omega) kc.v,tJ];rfl
 have e1:=key w1 t1 y1 A1 r1 s1 k1 v1;have e2:=key w2 t2 y2 A2 r2 s2 k2 v2;have l1:=wR h (by omega) k1.v;have l2:=wR h (by omega) k2.v;have hy:y1=y2:=by
  have a1:=congrArg (Qq (x.zA.length-(k+1)+1)) e1;have a2:=congrArg (Qq (x.zA.length-(k+1)+1)) e2
  grind
 subst hy;refine⟨rfl,?_⟩;constructor
 all_goals grind[List.append_cancel_left]
theorem zEB{v:List Nat}(hv:∀a∈v,k+1≤a∧a<x.zA.length){z:List Nat}:fo (exx D x m T) k (zeros ((exx D x m T).zA.length-k)) (v++k::z)=fo (exx D x m T) k ((1:Int)::sig (suf (exx D x m T) (k+1)) (lvl (exx D x m T) k) (fo (exx D x m T) (k+1) (zeros ((exx D x m T).zA.length-(k+1))) v)) z:=by
 have ho:=(h.os.2 k hk).pos;have hl:=xM h hE hT;have hF:=zQX h hE hT hk hv (zOg h hE hT (by omega));rw[show zeros ((exx D x m T).zA.length-k)=0::zeros ((exx D x m T).zA.length-(k+1))from by rw[show(exx D x m T).zA.length-k=(exx D x m T).zA.length-(k+1)+1 from by omega];rfl,zDy,zI1 h hE hT hk hc (by omega) v _ hv,sL,zG6 h hE hT hk hc hF,if_neg (by omega)];rfl
 omit hc in
theorem zFv{y:Vec}(hy:V (suf x (k+1)) y):sig (suf (exx D x m T) (k+1)) (lvl (exx D x m T) k) (y++zeros D)=(nw (k+1) y).foldl (fun acc j=>mul (suf (exx D x m T) (k+1)) acc ((lvl (exx D x m T) k).cs.getD (j-(k+1)) [])) (zeros ((exx D x m T).zA.length-(k+1))):=by
  have hp:=hE.m.p.pos;have e7:=wR h (by omega) hy;rw[zC7 h hE hT hk hy (xC (by omega)),zBr];obtain⟨y1,u1,e,eY,fO⟩:=(sK h hE hT (x.zA.length-(k+1)) (k+1) (by omega) _).1 (zIp h hE hT hk (y:=y));have gL:=wR h (by omega) eY;rw[e,Jp gL,Jx gL,zBq fO,←e];unfold sgG;rw[yH];refine zIy _ (fun j=>(lvl (exx D x m T) k).cs.getD (j-(k+1)) []) [] _ _ _ _ (fun j hj=>?_) (by grind[qZ])
  grind[zC6]
 omit hc in
theorem zMF{j:Nat}(h1:k+1≤j)(h2:j<x.zA.length):V (suf (exx D x m T) (k+1)) ((lvl (exx D x m T) k).cs.getD (j-(k+1)) []):=by
  have gA:V (suf x (k+1)) ((lcj x k j).drop (k+1)):=by grind[kU,vY]
  rw[zIr h hE hT hk h1 h2,show(lvl x k).cs.getD (j-(k+1)) []=(lcj x k j).drop (k+1)from map_drop]
  grind[zDY,zEm]
theorem zMG:∀{v:List Nat},(∀a∈v,k+1≤a∧a<x.zA.length)→ ∀{e f:Vec},V (suf (exx D x m T) (k+1)) e→V (suf (exx D x m T) (k+1)) f→v.foldl (fun acc j=>mul (suf (exx D x m T) (k+1)) acc ((lvl (exx D x m T) k).cs.getD (j-(k+1)) [])) (mul (suf (exx D x m T) (k+1)) e f)=mul (suf (exx D x m T) (k+1)) e (v.foldl (fun acc j=>mul (suf (exx D x m T) (k+1)) acc ((lvl (exx D x m T) k).cs.getD (j-(k+1)) [])) f)
 | [],_,_,_,_,_=>rfl
 |a::w,hw,e,f,he,hf=>by have gz:=vS h hE hT (k:=k+1) (by omega);have G:=(zDh _ gz hc).toMon;have hg:=zMF h hE hT hk (hw a (by simp)).1 (hw a (by simp)).2;simp only[G1];rw[G.assoc he hf hg,zMG (by grind) he (G.cl hf hg)]
theorem csE{j:Nat}(h1:k+1≤j)(h2:j<x.zA.length):V (suf x (k+1)) ((lcj x k j).drop (k+1))∧(lvl (exx D x m T) k).cs.getD (j-(k+1)) []=adK m.Prime D (x.zA.length-(k+1)) ((lcj x k j).drop (k+1)++zeros D) (T.getD (base x.zA.length k+(j-(k+1))) [])∧
  fo (exx D x m T) (k+1) (zeros ((exx D x m T).zA.length-(k+1))) (nw 0 (lcj x k j))=(lcj x k j).drop (k+1)++zeros D∧(∀a∈nw 0 (lcj x k j),k+1≤a∧a<x.zA.length):=by
 have gA:V (suf x (k+1)) ((lcj x k j).drop (k+1)):=by grind[kU,vY]
 have ck:=sW h (vY h (show k<j by omega) h2) hk;refine⟨gA,?_,?_,ck.2⟩
 ·rw[zIr h hE hT hk h1 h2,show(lvl x k).cs.getD (j-(k+1)) []=(lcj x k j).drop (k+1)from map_drop,zAe h hE hT (by omega) gA,vO (zEm h hE hT (by omega) h2)]
 ·rw[ck.1];exact zI0 h hE hT _ (k+1) (by omega:k+1+(x.zA.length-(k+1))=x.zA.length) hc _ gA
theorem wE:V (suf x (k+1)) ((x.zJ.getD k []).drop (k+1))∧(lvl (exx D x m T) k).w=adK m.Prime D (x.zA.length-(k+1)) ((x.zJ.getD k []).drop (k+1)++zeros D) (T.getD k [])∧
  fo (exx D x m T) (k+1) (zeros ((exx D x m T).zA.length-(k+1))) (nw 0 (x.zJ.getD k []))=(x.zJ.getD k []).drop (k+1)++zeros D∧(∀a∈nw 0 (x.zJ.getD k []),k+1≤a∧a<x.zA.length):=by
 have fN:V (suf x (k+1)) ((x.zJ.getD k []).drop (k+1)):=kU (kM h hk) hk;have p7:=sW h (kM h hk) hk;refine⟨fN,?_,?_,p7.2⟩
 ·rw[zIn h hE hT hk,zAe h hE hT (by omega) fN,vO (zC8 h hE hT hk)];rfl
 ·rw[p7.1];exact zI0 h hE hT _ (k+1) (by omega:k+1+(x.zA.length-(k+1))=x.zA.length) hc _ fN
 omit hc in
theorem zKO{a:Nat}(ha:a<x.zA.length):wM m.Prime D m.zG [a] (idM D)=m.zG.getD a []:=by have _:=h;have _:=hT;have _:=hk;show PM m.Prime D (idM D) (m.zG.getD a [])=_;exact zCy (hE.m.mat a ha)
theorem zYP(hL:LC x k){t1 t2:List (Nat×List Nat)}{y1 y2:Vec}(k1:qM x k (nw 0 (x.zJ.getD k [])++[k]) t1 y1)(k2:qM x k (k::nw 0 (x.zJ.getD k [])) t2 y2):
  y1=y2∧(tv m.Prime D m T ((k,[k])::t1)=tv m.Prime D m T ((k,[])::t2)↔sig (suf (exx D x m T) (k+1)) (lvl (exx D x m T) k) (lvl (exx D x m T) k).w=(lvl (exx D x m T) k).w):=by
 have hp:=hE.m.p.pos;have ho:=(h.os.2 k hk).pos;obtain⟨w1,w2,w3,w4⟩:=wE h hE hT hk hc;have ex:=zC8 h hE hT hk;have cZ:=zDY h hE hT (k:=k+1) (by omega) w1 (xC (p:=m.Prime) (D:=D) (by omega));have fA:=zQW h hE hT hk;have v1:=zEB h hE hT hk hc w4 (z:=[]);rw[w3]at v1;have v2:=zEB h hE hT hk hc (v:=[]) (by simp) (z:=nw 0 (x.zJ.getD k []));have hz:fo (exx D x m T) (k+1) (zeros ((exx D x m T).zA.length-(k+1))) []=zeros ((exx D x m T).zA.length-(k+1)):=rfl;have hs:sig (suf (exx D x m T) (k+1)) (lvl (exx D x m T) k) (zeros ((exx D x m T).zA.length-(k+1)))=zeros ((exx D x m T).zA.length-(k+1)):=by grind[sig,qB,yH]
 rw[hz,hs,zI1 h hE hT hk hc (by omega) _ _ w4,w3]at v2;have e1:adK m.Prime D (x.zA.length-(k+1)) (sig (suf (exx D x m T) (k+1)) (lvl (exx D x m T) k) ((x.zJ.getD k []).drop (k+1)++zeros D)) (xJ m.Prime D (T.getD k []) (wM m.Prime D m.zG [k] (idM D)))=sig (suf (exx D x m T) (k+1)) (lvl (exx D x m T) k) (lvl (exx D x m T) k).w:=by grind[zKO,zIw]
 have e2:adK m.Prime D (x.zA.length-(k+1)) ((x.zJ.getD k []).drop (k+1)++zeros D) (xJ m.Prime D (T.getD k []) (wM m.Prime D m.zG [] (idM D)))=(lvl (exx D x m T) k).w:=by rw[show wM m.Prime D m.zG [] (idM D)=idM D from rfl,kL ex,w2]
 obtain⟨hy,this⟩:=zGW h hE hT hk hc k1 k2 (r1:=k) (r2:=k) (s1:=[k]) (s2:=[]) (zBs h hE hT hk cZ) cZ v1 v2 (by rw[e1,e2,zE8 h hE hT hk fA,zIn h hE hT hk,Jp (by have:=wR h (by omega) w1;exact this)];exact hL.c3)
 refine⟨hy,?_⟩
 grind
end
end Go.Pl

namespace Go.Pl
open Go Go.Ab Go.Wk Go.Pc
theorem zYQ:∀(a o:Nat)(b:Int)(c:Vec),nw o (zeros a++b::c)=J1 b.toNat (o+a)++nw (o+a+1) c
 |0,o,b,c=>rfl
 |a+1,o,b,c=>by rw[show zeros (a+1)++b::c=0::(zeros a++b::c)from rfl];simp only[nw,G3,Lw,Jq];rw[zYQ a (o+1) b c,show o+1+a=o+(a+1)from by omega]
theorem zKP{os v:List Int}{j k:Nat}(hv:Exp os v j)(hk:k≤j):Exp os v k:=⟨hv.1,fun i hi=>hv.2 i (by omega)⟩
section
variable {x:SPr} (h:Pres x)
 include h
theorem zYR:∀(a k:Nat){b:Int}{c:Vec},k+a<x.zA.length→0≤b→b<at0 x.zA (k+a)→V (suf x (k+a+1)) c→V (suf x k) (zeros a++b::c)
 |0,k,b,c,ha,h0,h1,hc=>by rw[zY (x:=x) (by omega)];exact⟨⟨h0,h1⟩,hc⟩
 |a+1,k,b,c,ha,h0,h1,hc=>by
  have:=(h.os.2 k (by omega)).pos;rw[zY (x:=x) (by omega)];refine⟨⟨Int.le_refl 0,?_⟩,?_⟩
  ·show(0:Int)<at0 x.zA k
   omega
  ·exact zYR a (k+1) (by omega) h0 (by grind) (by grind)
end
section
variable {D:Nat}{x:SPr}{m:zC}{T:Mx} (h:Pres x) (hE:ExB x.zA.length D x m T) (hT:∀i,i<T.length→Row m.Prime D (T.getD i []))
 include h hE hT
variable {k:Nat} (hk:k<x.zA.length) (hc:xK (suf (exx D x m T) (k+1)))
 include hk hc
theorem zOj{j:Nat}(h1:k+1≤j)(h2:j<x.zA.length){b:Int}(h0:0≤b)(hb:b<at0 x.zA j){c:Vec}(cV:V (suf x (j+1)) c):V (suf x (k+1)) (zeros (j-(k+1))++b::c)∧nw (k+1) (zeros (j-(k+1))++b::c)=J1 b.toNat j++nw (j+1) c∧
  fo (exx D x m T) (k+1) (zeros ((exx D x m T).zA.length-(k+1))) (J1 b.toNat j++nw (j+1) c)=(zeros (j-(k+1))++b::c)++zeros D:=by
 have e:k+1+(j-(k+1))=j:=by omega
 have hv:V (suf x (k+1)) (zeros (j-(k+1))++b::c):=by grind[zYR]
 have hn:nw (k+1) (zeros (j-(k+1))++b::c)=J1 b.toNat j++nw (j+1) c:=by rw[zYQ,e]
 refine⟨hv,hn,?_⟩;rw[←hn];exact zI0 h hE hT _ (k+1) (by omega:k+1+(x.zA.length-(k+1))=x.zA.length) hc _ hv
theorem zPR{e:Vec}(he:V (suf (exx D x m T) (k+1)) e):mul (suf (exx D x m T) (k+1)) (zeros ((exx D x m T).zA.length-(k+1))) e=e:=by
 have G:=(zDh _ (vS h hE hT (k:=k+1) (by omega)) hc).toMon;have:=G.onel he
 grind[yH]
theorem zPS{j:Nat}(h1:k+1≤j)(h2:j<x.zA.length):fo (exx D x m T) (k+1) (zeros ((exx D x m T).zA.length-(k+1))) [j]=yZ ((exx D x m T).zA.length-(k+1)) (j-(k+1))∧sig (suf (exx D x m T) (k+1)) (lvl (exx D x m T) k) (yZ ((exx D x m T).zA.length-(k+1)) (j-(k+1)))=(lvl (exx D x m T) k).cs.getD (j-(k+1)) []:=by
 have ho:=(h.os.2 j h2).pos;have hz:V (suf x (j+1)) (zeros (x.zA.length-(j+1))):=by have:=xU (h.okAt (k:=j+1) (by omega));grind[yH]
 obtain⟨v1,v2,v3⟩:=zOj h hE hT hk hc h1 h2 (b:=1) (by omega) (by omega) hz;have hn:nw (j+1) (zeros (x.zA.length-(j+1)))=[]:=zDx _ _;rw[hn]at v2 v3;have hf:fo (exx D x m T) (k+1) (zeros ((exx D x m T).zA.length-(k+1))) [j]=yZ ((exx D x m T).zA.length-(k+1)) (j-(k+1)):=zPR h hE hT hk hc (zDz h hE hT h1 h2);refine⟨hf,?_⟩;rw[←hf];have v3':fo (exx D x m T) (k+1) (zeros ((exx D x m T).zA.length-(k+1))) [j]=_:=v3
 grind[zFv,zPR,zMF]
theorem zYS(hL:LC x k){j:Nat}(h1:k+1≤j)(h2:j<x.zA.length){t1 t2:List (Nat×List Nat)}{y1 y2:Vec}(k1:qM x k (nw 0 (x.zJ.getD j [])++[k]) t1 y1)(k2:qM x k (J1 (yE x j-1) j++k::nw 0 (lcj x k j)) t2 y2):
  y1=y2∧(tv m.Prime D m T ((j,[k])::t1)=tv m.Prime D m T ((base x.zA.length k+(j-(k+1)),[])::t2)↔c1E (exx D x m T) k j):=by
 have hp:=hE.m.p.pos;have ho:=(h.os.2 k hk).pos;have hj:=(h.os.2 j h2).pos;have p6:=zKP (kM h h2) (show k≤j by omega);have fN:V (suf x (k+1)) ((x.zJ.getD j []).drop (k+1)):=kU p6 hk;have p7:=sW h p6 hk;have bo:=zC8 h hE hT h2;have cZ:=zDY h hE hT (k:=k+1) (by omega) fN (xC (p:=m.Prime) (D:=D) (by omega));obtain⟨c1,c2,c3,c4⟩:=csE h hE hT hk hc h1 h2;have fS:=zDY h hE hT (k:=k+1) (by omega) c1 (xC (p:=m.Prime) (D:=D) (by omega));have hcV:=zMF h hE hT hk h1 h2;have ex:=zEm h hE hT (show k<j by omega) h2;have pz:V (suf x (j+1)) (zeros (x.zA.length-(j+1))):=by have:=xU (h.okAt (k:=j+1) (by omega));rwa [yH]at this
 obtain⟨u1,u2,u3⟩:=zOj h hE hT hk hc h1 h2 (b:=at0 x.zA j-1) (by omega) (by omega) pz;rw[zDx,Jb,show(at0 x.zA j-1).toNat=yE x j-1 from by show _=(at0 x.zA j).toNat-1;omega]at u2 u3;have gz:=vS h hE hT (k:=k+1) (by omega);have G:=(zDh _ gz hc).toMon;have v1:=zEB h hE hT hk hc p7.2 (z:=[]);rw[p7.1,zI0 h hE hT _ (k+1) (by omega:k+1+(x.zA.length-(k+1))=x.zA.length) hc _ fN,←p7.1]at v1;have hr:∀a∈J1 (yE x j-1) j,k+1≤a∧a<x.zA.length:=fun a ha=>by have:=Hc ha;omega
 have v2:=zEB h hE hT hk hc hr (z:=nw 0 (lcj x k j));have aR:∀q(e:Vec),(J1 q j).foldl (fun acc j=>mul (suf (exx D x m T) (k+1)) acc ((lvl (exx D x m T) k).cs.getD (j-(k+1)) [])) e=iter q (fun v=>mul (suf (exx D x m T) (k+1)) v ((lvl (exx D x m T) k).cs.getD (j-(k+1)) [])) e:=by
  intro q
  induction q with
  |zero=>intro e;rfl
  |succ q ih=>intro e;rw[Ju,G1,ih];rfl
 have hpq:sig (suf (exx D x m T) (k+1)) (lvl (exx D x m T) k) (fo (exx D x m T) (k+1) (zeros ((exx D x m T).zA.length-(k+1))) (J1 (yE x j-1) j))=pw (mul (suf (exx D x m T) (k+1))) (zeros (suf (exx D x m T) (k+1)).length) ((lvl (exx D x m T) k).cs.getD (j-(k+1)) []) (yE x j-1):=by rw[u3,zFv h hE hT hk u1,u2,aR,yH];rfl
 have aY:V (suf (exx D x m T) (k+1)) (pw (mul (suf (exx D x m T) (k+1))) (zeros (suf (exx D x m T) (k+1)).length) ((lvl (exx D x m T) k).cs.getD (j-(k+1)) []) (yE x j-1)):=tP G hcV _;rw[hpq,zI1 h hE hT hk hc (by omega) _ _ c4,zI2 h hE hT hk hc c4 aY,c3]at v2;have e1:adK m.Prime D (x.zA.length-(k+1)) (sig (suf (exx D x m T) (k+1)) (lvl (exx D x m T) k) ((x.zJ.getD j []).drop (k+1)++zeros D)) (xJ m.Prime D (T.getD j []) (wM m.Prime D m.zG [k] (idM D)))=sig (suf (exx D x m T) (k+1)) (lvl (exx D x m T) k) (((exx D x m T).zJ.getD j []).drop (k+1)):=by rw[zKO h hE hT hk hk,zE6 h hE hT (by omega) h2,←zIw h hE hT hk cZ bo,zAe h hE hT (by omega) fN,vO bo]
 have e2:adK m.Prime D (x.zA.length-(k+1)) (mul (suf (exx D x m T) (k+1)) (pw (mul (suf (exx D x m T) (k+1))) (zeros (suf (exx D x m T) (k+1)).length) ((lvl (exx D x m T) k).cs.getD (j-(k+1)) []) (yE x j-1)) ((lcj x k j).drop (k+1)++zeros D)) (xJ m.Prime D (T.getD (base x.zA.length k+(j-(k+1))) []) (wM m.Prime D m.zG [] (idM D)))=pw (mul (suf (exx D x m T) (k+1))) (zeros (suf (exx D x m T) (k+1)).length) ((lvl (exx D x m T) k).cs.getD (j-(k+1)) []) (at0 (exx D x m T).zA j).toNat:=by
  rw[show wM m.Prime D m.zG [] (idM D)=idM D from rfl,kL ex,←zMB h hE hT hk hc fS ex aY,←c2,tC h hE hT h2,show(at0 x.zA j).toNat=(yE x j-1)+1 from by show _=(at0 x.zA j).toNat-1+1;omega]
  conv=>rhs;rw[pw,wW]
  rfl
 have fh:V (suf (exx D x m T) (k+1)) (((exx D x m T).zJ.getD j []).drop (k+1)):=by rw[zE6 h hE hT (by omega) h2];exact zDY h hE hT (by omega) fN bo
 obtain⟨hy,this⟩:=zGW h hE hT hk hc k1 k2 (r1:=j) (r2:=base x.zA.length k+(j-(k+1))) (s1:=[k]) (s2:=[]) (zBs h hE hT hk cZ) (yV gz aY fS) v1 v2 (by rw[e1,e2,zE8 h hE hT hk fh,zIv h hE hT hk (by omega) h2,zYK h hE hT (by omega) hcV,zJJ h hE hT hk h1 h2,tC h hE hT h2];exact(hL.c1 j h1 h2).symm)
 rw[e1,e2]at this;refine⟨hy,?_⟩;rw[this];exact eq_comm
theorem zYT(hL:LC x k){i j:Nat}(h1:k+1≤i)(eg:i<j)(h2:j<x.zA.length){t1 t2:List (Nat×List Nat)}{y1 y2:Vec}(k1:qM x k (i::(nw 0 (lcj x i j)++[k])) t1 y1)(k2:qM x k (j::k::nw 0 (lcj x k i)) t2 y2):
  y1=y2∧(tv m.Prime D m T ((base x.zA.length i+(j-(i+1)),[k])::t1)=tv m.Prime D m T ((base x.zA.length k+(i-(k+1)),[])::t2)↔c2E (exx D x m T) k i j):=by
 have hp:=hE.m.p.pos;have ho:=(h.os.2 k hk).pos;have hi:=(h.os.2 i (by omega)).pos;have mo:=vY h eg h2;have ag:=zKP mo (show k≤i by omega);have bY:V (suf x (k+1)) ((lcj x i j).drop (k+1)):=kU ag hk;have du:V (suf x (i+1)) ((lcj x i j).drop (i+1)):=kU mo (by omega);have hn:=sW h ag hk;have hni:=sW h mo (by omega);have bp:=zEm h hE hT eg h2;have am:=zDY h hE hT (k:=k+1) (by omega) bY (xC (p:=m.Prime) (D:=D) (by omega));obtain⟨c1,c2,c3,c4⟩:=csE h hE hT hk hc h1 (show i<x.zA.length by omega);have fS:=zDY h hE hT (k:=k+1) (by omega) c1 (xC (p:=m.Prime) (D:=D) (by omega));have fJ:=zMF h hE hT hk h1 (show i<x.zA.length by omega);have pq:=zMF h hE hT hk (show k+1≤j by omega) h2;have ex:=zEm h hE hT (show k<i by omega) (show i<x.zA.length by omega);have gz:=vS h hE hT (k:=k+1) (by omega);obtain⟨u1,u2,u3⟩:=zOj h hE hT hk hc h1 (show i<x.zA.length by omega) (b:=1) (by omega) (by omega) du;rw[←hni.1,show J1 (1:Int).toNat i++nw 0 (lcj x i j)=i::nw 0 (lcj x i j)from rfl]at u2 u3;have hr:∀a∈i::nw 0 (lcj x i j),k+1≤a∧a<x.zA.length:=fun a ha=>by
  simp only[J9]at ha;rcases ha with rfl|ha
  ·omega
  ·exact hn.2 a ha
 have v1:=zEB h hE hT hk hc hr (z:=[]);have es:sig (suf (exx D x m T) (k+1)) (lvl (exx D x m T) k) (fo (exx D x m T) (k+1) (zeros ((exx D x m T).zA.length-(k+1))) (i::nw 0 (lcj x i j)))=mul (suf (exx D x m T) (k+1)) ((lvl (exx D x m T) k).cs.getD (i-(k+1)) []) (sig (suf (exx D x m T) (k+1)) (lvl (exx D x m T) k) ((lcj x i j).drop (k+1)++zeros D)):=by rw[u3,zFv h hE hT hk u1,u2,G1,zPR h hE hT hk hc fJ,zFv h hE hT hk bY,←hn.1];have:=zMG h hE hT hk hc hn.2 fJ (zOg h hE hT (k:=k+1) (by omega));rw[yA2 h hE hT (by omega) fJ]at this;exact this
 rw[es]at v1;have v2:=zEB h hE hT hk hc (v:=[j]) (fun a ha=>by simp only[List.mem_singleton]at ha;omega) (z:=nw 0 (lcj x k i));obtain⟨g1,g2⟩:=zPS h hE hT hk hc (show k+1≤j by omega) h2;rw[g1,g2,zI1 h hE hT hk hc (by omega) _ _ c4,zI2 h hE hT hk hc c4 pq,c3]at v2;have c9:=zBs h hE hT hk am;have f8:((((exx D x m T).zB.getD i []).getD (j-(i+1)) []).drop (k+1))=adK m.Prime D (x.zA.length-(k+1)) ((lcj x i j).drop (k+1)++zeros D) (T.getD (base x.zA.length i+(j-(i+1))) []):=by rw[zGe h hE hT (by omega) eg h2,zAe h hE hT (by omega) bY,vO bp]
 have e1:adK m.Prime D (x.zA.length-(k+1)) (mul (suf (exx D x m T) (k+1)) ((lvl (exx D x m T) k).cs.getD (i-(k+1)) []) (sig (suf (exx D x m T) (k+1)) (lvl (exx D x m T) k) ((lcj x i j).drop (k+1)++zeros D))) (xJ m.Prime D (T.getD (base x.zA.length i+(j-(i+1))) []) (wM m.Prime D m.zG [k] (idM D)))=mul (suf (exx D x m T) (k+1)) ((lvl (exx D x m T) k).cs.getD (i-(k+1)) []) (sig (suf (exx D x m T) (k+1)) (lvl (exx D x m T) k) ((((exx D x m T).zB.getD i []).getD (j-(i+1)) []).drop (k+1))):=by rw[zKO h hE hT hk hk,←zMB h hE hT hk hc c9 (wU (by omega)) fJ,←zIw h hE hT hk am bp,←f8]
 have e2:adK m.Prime D (x.zA.length-(k+1)) (mul (suf (exx D x m T) (k+1)) ((lvl (exx D x m T) k).cs.getD (j-(k+1)) []) ((lcj x k i).drop (k+1)++zeros D)) (xJ m.Prime D (T.getD (base x.zA.length k+(i-(k+1))) []) (wM m.Prime D m.zG [] (idM D)))=mul (suf (exx D x m T) (k+1)) ((lvl (exx D x m T) k).cs.getD (j-(k+1)) []) ((lvl (exx D x m T) k).cs.getD (i-(k+1)) []):=by rw[show wM m.Prime D m.zG [] (idM D)=idM D from rfl,kL ex,←zMB h hE hT hk hc fS ex pq,←c2]
 have bZ:V (suf (exx D x m T) (k+1)) ((((exx D x m T).zB.getD i []).getD (j-(i+1)) []).drop (k+1)):=by rw[f8];exact yA3 h hE hT (by omega) am
 obtain⟨hy,this⟩:=zGW h hE hT hk hc k1 k2 (r1:=base x.zA.length i+(j-(i+1))) (r2:=base x.zA.length k+(i-(k+1))) (s1:=[k]) (s2:=[]) (yV gz fJ c9) (yV gz pq fS) v1 v2 (by rw[e1,e2,zCA h hE hT (by omega) fJ (zBs h hE hT hk bZ),zCA h hE hT (by omega) pq fJ,zE8 h hE hT hk bZ,zJJ h hE hT hk h1 (by omega),zJJ h hE hT hk (by omega) h2,zTw h hE hT hk h1 eg h2];exact(hL.c2 i h1 (by omega) j (by omega) h2).symm)
 rw[e1,e2]at this;refine⟨hy,?_⟩;rw[this];exact eq_comm
end
end Go.Pl

namespace Go.Pl
open Go Go.Ab Go.Wk Go.Pc
section
variable {D:Nat}{x:SPr}{m:zC}{T:Mx} (h:Pres x) (hE:ExB x.zA.length D x m T) (hT:∀i,i<T.length→Row m.Prime D (T.getD i []))
 include h hE hT
variable {k:Nat} (hk:k<x.zA.length) (hc:xK (suf (exx D x m T) (k+1)))
 include hk hc
 omit hc in
theorem zOl:∀(q:Nat){e:Vec},V (suf (exx D x m T) (k+1)) e→V (suf (exx D x m T) (k+1)) (iter q (sig (suf (exx D x m T) (k+1)) (lvl (exx D x m T) k)) e)
  |0,_,he=>he
  |q+1,_,he=>zOl q (zBs h hE hT hk he)
 omit hc in
theorem zYU:∀(q:Nat){e d:Vec},V (suf (exx D x m T) (k+1)) e→Row m.Prime D d→iter q (sig (suf (exx D x m T) (k+1)) (lvl (exx D x m T) k)) (adK m.Prime D (x.zA.length-(k+1)) e d)=adK m.Prime D (x.zA.length-(k+1)) (iter q (sig (suf (exx D x m T) (k+1)) (lvl (exx D x m T) k)) e) (xJ m.Prime D d (wM m.Prime D m.zG (J1 q k) (idM D)))
  |0,e,d,_,hd=>by show adK _ _ _ e d=adK _ _ _ e (xJ m.Prime D d (idM D));rw[kL hd]
  |q+1,e,d,he,hd=>by have hp:=hE.m.p.pos;show iter q _ (sig _ _ (adK _ _ _ e d))=adK _ _ _ (iter q _ (sig _ _ e)) _;rw[zIw h hE hT hk he hd,zYU q (zBs h hE hT hk he) (wU (by omega)),Ju,show k::J1 q k=[k]++J1 q k from rfl,zFu (by omega),zKO h hE hT hk hk]
theorem zT9:∀(q:Nat){c:Int}{e:Vec},0≤c→c+(q:Int)<at0 x.zA k→V (suf (exx D x m T) (k+1)) e→fo (exx D x m T) k (c::e) (J1 q k)=(c+(q:Int))::iter q (sig (suf (exx D x m T) (k+1)) (lvl (exx D x m T) k)) e
 |0,c,e,_,_,_=>by show c::e=(c+((0:Nat):Int))::e;simp
 |q+1,c,e,h0,h1,he=>by
  rw[Ju,sL,zG6 h hE hT hk hc he,if_neg (by omega),zT9 q (by omega) (by omega) (zBs h hE hT hk he)]
  grind[iter]
theorem zYV(hL:LC x k){j:Nat}(h1:k+1≤j)(h2:j<x.zA.length){t1 t2:List (Nat×List Nat)}{y1 y2:Vec}(k1:qM x k (k::(nw 0 (lcj x k j)++J1 (yE x k-1) k)) t1 y1)(k2:qM x k (j::nw 0 (x.zJ.getD k [])) t2 y2):
  y1=y2∧(tv m.Prime D m T ((base x.zA.length k+(j-(k+1)),J1 (yE x k-1) k)::t1)=tv m.Prime D m T ((k,[])::t2)↔c4E (exx D x m T) k j):=by
 have hp:=hE.m.p.pos;have ho:=(h.os.2 k hk).pos;have hon:(yE x k:Int)=at0 x.zA k:=by grind
 obtain⟨w1,w2,w3,w4⟩:=wE h hE hT hk hc;have cZ:=zDY h hE hT (k:=k+1) (by omega) w1 (xC (p:=m.Prime) (D:=D) (by omega));have fA:=zQW h hE hT hk;have ex:=zC8 h hE hT hk;obtain⟨c1,c2,c3,c4⟩:=csE h hE hT hk hc h1 h2;have fS:=zDY h hE hT (k:=k+1) (by omega) c1 (xC (p:=m.Prime) (D:=D) (by omega));have bo:=zEm h hE hT (show k<j by omega) h2;have gz:=vS h hE hT (k:=k+1) (by omega);have hg:=zDz h hE hT h1 h2;obtain⟨g1,g2⟩:=zPS h hE hT hk hc h1 h2;have hz:fo (exx D x m T) (k+1) (zeros ((exx D x m T).zA.length-(k+1))) []=zeros ((exx D x m T).zA.length-(k+1)):=rfl;have hs:sig (suf (exx D x m T) (k+1)) (lvl (exx D x m T) k) (zeros ((exx D x m T).zA.length-(k+1)))=zeros ((exx D x m T).zA.length-(k+1)):=by grind[sig,qB,yH]
 have hl:=xM h hE hT;have v1:=zEB h hE hT hk hc (v:=[]) (by simp) (z:=nw 0 (lcj x k j)++J1 (yE x k-1) k);rw[hz,hs]at v1;have v0:=v1.trans (zDy (e:=exx D x m T) (k:=k) (u:=(1:Int)::zeros ((exx D x m T).zA.length-(k+1))) (v:=nw 0 (lcj x k j)) (w:=J1 (yE x k-1) k));rw[zI1 h hE hT hk hc (by omega) _ _ c4,c3]at v0;have ef:=zOl h hE hT hk (yE x k-2) fS;have v1':fo (exx D x m T) k (zeros ((exx D x m T).zA.length-k)) (k::(nw 0 (lcj x k j)++J1 (yE x k-1) k))=0::mul (suf (exx D x m T) (k+1)) (lvl (exx D x m T) k).w (iter (yE x k-1) (sig (suf (exx D x m T) (k+1)) (lvl (exx D x m T) k)) ((lcj x k j).drop (k+1)++zeros D)):=by
  refine v0.trans ?_;rw[show yE x k-1=(yE x k-2)+1 from by omega,Kw,zDy,zT9 h hE hT hk hc (yE x k-2) (by omega) (by omega) fS];show mul _ _ _=_;rw[zG6 h hE hT hk hc ef,if_pos (by omega),wW]
  grind
 have hr:∀a∈j::nw 0 (x.zJ.getD k []),k+1≤a∧a<x.zA.length:=by grind
 have v2:fo (exx D x m T) k (zeros ((exx D x m T).zA.length-k)) (j::nw 0 (x.zJ.getD k []))=0::mul (suf (exx D x m T) (k+1)) (yZ ((exx D x m T).zA.length-(k+1)) (j-(k+1))) ((x.zJ.getD k []).drop (k+1)++zeros D):=by rw[show zeros ((exx D x m T).zA.length-k)=0::zeros ((exx D x m T).zA.length-(k+1))from by rw[show(exx D x m T).zA.length-k=(exx D x m T).zA.length-(k+1)+1 from by omega];rfl,zI1 h hE hT hk hc (by omega) _ _ hr,sL,zPR h hE hT hk hc hg,zI2 h hE hT hk hc w4 hg,w3]
 have e1:adK m.Prime D (x.zA.length-(k+1)) (mul (suf (exx D x m T) (k+1)) (lvl (exx D x m T) k).w (iter (yE x k-1) (sig (suf (exx D x m T) (k+1)) (lvl (exx D x m T) k)) ((lcj x k j).drop (k+1)++zeros D))) (xJ m.Prime D (T.getD (base x.zA.length k+(j-(k+1))) []) (wM m.Prime D m.zG (J1 (yE x k-1) k) (idM D)))=mul (suf (exx D x m T) (k+1)) (lvl (exx D x m T) k).w (iter (lvl (exx D x m T) k).o.toNat (sig (suf (exx D x m T) (k+1)) (lvl (exx D x m T) k)) (yZ ((exx D x m T).zA.length-(k+1)) (j-(k+1)))):=by rw[←zMB h hE hT hk hc (zOl h hE hT hk _ fS) (wU (by omega)) fA,←zYU h hE hT hk _ fS bo,←c2,←g2,zCh h hE hT hk,show(at0 x.zA k).toNat=(yE x k-1)+1 from by omega];rfl
 have e2:adK m.Prime D (x.zA.length-(k+1)) (mul (suf (exx D x m T) (k+1)) (yZ ((exx D x m T).zA.length-(k+1)) (j-(k+1))) ((x.zJ.getD k []).drop (k+1)++zeros D)) (xJ m.Prime D (T.getD k []) (wM m.Prime D m.zG [] (idM D)))=mul (suf (exx D x m T) (k+1)) (yZ ((exx D x m T).zA.length-(k+1)) (j-(k+1))) (lvl (exx D x m T) k).w:=by rw[show wM m.Prime D m.zG [] (idM D)=idM D from rfl,kL ex,←zMB h hE hT hk hc cZ ex hg,←w2]
 have ax:(lvl (exx D x m T) k).w.take (x.zA.length-(k+1))=(lvl x k).w:=zIv h hE hT hk (Jk k) hk;have eS:(yZ (x.zA.length-(k+1)) (j-(k+1))).length=x.zA.length-(k+1):=by simp[yZ,zeros]
 obtain⟨hy,this⟩:=zGW h hE hT hk hc k1 k2 (r1:=base x.zA.length k+(j-(k+1))) (r2:=k) (s1:=J1 (yE x k-1) k) (s2:=[]) (yV gz fA (zOl h hE hT hk _ fS)) (yV gz hg cZ) v1' v2 (by rw[e1,e2,zCA h hE hT (by omega) fA (zOl h hE hT hk _ hg),zCA h hE hT (by omega) hg fA,zKH h hE hT hk _ hg,ax,zTx h hE hT hk h1 h2,Jp eS,zCh h hE hT hk];exact hL.c4 j h1 h2)
 rw[e1,e2]at this;exact⟨hy,this⟩
end
structure zKQ (x:SPr) (k:Nat) (r1:Nat) (s1 w1:List Nat) (r2:Nat) (s2 w2:List Nat) (t1 t2:List (Nat×List Nat)):Prop where
 a:∃u1 y1,t1=(r1,s1)::u1∧qM x k w1 u1 y1
 b:∃u2 y2,t2=(r2,s2)::u2∧qM x k w2 u2 y2
structure zYW (x:SPr) (D:Nat) (m:zC) (T:Mx):Prop where
 p1:∀k j,k<j→j<x.zA.length→ ∀t1 t2,zKQ x k j [k] (nw 0 (x.zJ.getD j [])++[k]) (base x.zA.length k+(j-(k+1))) [] (J1 (yE x j-1) j++k::nw 0 (lcj x k j)) t1 t2→tv m.Prime D m T t1=tv m.Prime D m T t2
 p2:∀k i j,k<i→i<j→j<x.zA.length→ ∀t1 t2,zKQ x k (base x.zA.length i+(j-(i+1))) [k] (i::(nw 0 (lcj x i j)++[k])) (base x.zA.length k+(i-(k+1))) [] (j::k::nw 0 (lcj x k i)) t1 t2→tv m.Prime D m T t1=tv m.Prime D m T t2
 p3:∀k,k<x.zA.length→ ∀t1 t2,zKQ x k k [k] (nw 0 (x.zJ.getD k [])++[k]) k [] (k::nw 0 (x.zJ.getD k [])) t1 t2→tv m.Prime D m T t1=tv m.Prime D m T t2
 p4:∀k j,k<j→j<x.zA.length→ ∀t1 t2,zKQ x k (base x.zA.length k+(j-(k+1))) (J1 (yE x k-1) k) (k::(nw 0 (lcj x k j)++J1 (yE x k-1) k)) k [] (j::nw 0 (x.zJ.getD k [])) t1 t2→tv m.Prime D m T t1=tv m.Prime D m T t2
end Go.Pl

namespace Go.Pl
open Go Go.Ab Go.Wk Go.Pc
section
variable {D:Nat}{x:SPr}{m:zC}{T:Mx} (h:Pres x) (hE:ExB x.zA.length D x m T) (hT:∀i,i<T.length→Row m.Prime D (T.getD i []))
 include h hE hT
theorem zJL{k:Nat}(hk:k<x.zA.length)(hL:LC x k)(hc:xK (suf (exx D x m T) (k+1))):LCn x (exx D x m T) k↔
  (∀j,k<j→j<x.zA.length→ ∀t1 t2,zKQ x k j [k] (nw 0 (x.zJ.getD j [])++[k]) (base x.zA.length k+(j-(k+1))) [] (J1 (yE x j-1) j++k::nw 0 (lcj x k j)) t1 t2→tv m.Prime D m T t1=tv m.Prime D m T t2)∧
  (∀i j,k<i→i<j→j<x.zA.length→ ∀t1 t2,zKQ x k (base x.zA.length i+(j-(i+1))) [k] (i::(nw 0 (lcj x i j)++[k])) (base x.zA.length k+(i-(k+1))) [] (j::k::nw 0 (lcj x k i)) t1 t2→tv m.Prime D m T t1=tv m.Prime D m T t2)∧
  (∀t1 t2,zKQ x k k [k] (nw 0 (x.zJ.getD k [])++[k]) k [] (k::nw 0 (x.zJ.getD k [])) t1 t2→tv m.Prime D m T t1=tv m.Prime D m T t2)∧
  (∀j,k<j→j<x.zA.length→ ∀t1 t2,zKQ x k (base x.zA.length k+(j-(k+1))) (J1 (yE x k-1) k) (k::(nw 0 (lcj x k j)++J1 (yE x k-1) k)) k [] (j::nw 0 (x.zJ.getD k [])) t1 t2→tv m.Prime D m T t1=tv m.Prime D m T t2):=by
 have hC:=fun(w:List Nat)(hw:∀a∈w,k≤a∧a<x.zA.length)=>zWP h (x.zA.length-k) k (by omega) w hw
 have f8:∀i j,i<j→j<x.zA.length→ ∀a∈nw 0 (lcj x i j),i+1≤a∧a<x.zA.length:=fun i j hi hj=>(sW h (vY h hi hj) (by omega)).2
 have fh:∀i,i<x.zA.length→ ∀a∈nw 0 (x.zJ.getD i []),i+1≤a∧a<x.zA.length:=fun i hi=>(sW h (kM h hi) hi).2
 constructor
 ·intro g
  refine⟨?_,?_,?_,?_⟩
  ·rintro j h1 h2 t1 t2 ⟨⟨u1,y1,rfl,k1⟩,⟨u2,y2,rfl,k2⟩⟩
   exact(zYS h hE hT hk hc hL (by omega) h2 k1 k2).2.2 (g.c1 j (by omega) h2)
  ·rintro i j h1 eg h2 t1 t2 ⟨⟨u1,y1,rfl,k1⟩,⟨u2,y2,rfl,k2⟩⟩
   exact(zYT h hE hT hk hc hL (by omega) eg h2 k1 k2).2.2 (g.c2 i (by omega) (by omega) j (by omega) h2)
  ·rintro t1 t2 ⟨⟨u1,y1,rfl,k1⟩,⟨u2,y2,rfl,k2⟩⟩
   exact(zYP h hE hT hk hc hL k1 k2).2.2 g.c3
  ·rintro j h1 h2 t1 t2 ⟨⟨u1,y1,rfl,k1⟩,⟨u2,y2,rfl,k2⟩⟩
   exact(zYV h hE hT hk hc hL (by omega) h2 k1 k2).2.2 (g.c4 j (by omega) h2)
 ·rintro⟨g1,g2,g3,g4⟩
  refine⟨fun j h1 h2=>?_,fun i h1 hi j eg h2=>?_,?_,fun j h1 h2=>?_⟩
  ·obtain⟨u1,y1,k1⟩:=hC (nw 0 (x.zJ.getD j [])++[k]) (fun a ha=>by
    simp only[Jf,List.mem_singleton]at ha;rcases ha with ha|rfl
    ·grind
    ·omega)
   obtain⟨u2,y2,k2⟩:=hC (J1 (yE x j-1) j++k::nw 0 (lcj x k j)) (fun a ha=>by
    simp only[Jf,J9]at ha;rcases ha with ha|rfl|ha
    ·grind
    ·omega
    grind)
   exact(zYS h hE hT hk hc hL h1 h2 k1 k2).2.1 (g1 j (by omega) h2 _ _ ⟨⟨u1,y1,rfl,k1⟩,⟨u2,y2,rfl,k2⟩⟩)
  ·obtain⟨u1,y1,k1⟩:=hC (i::(nw 0 (lcj x i j)++[k])) (fun a ha=>by
    simp only[Jf,J9,Q8,or_false]at ha;rcases ha with rfl|ha|rfl
    ·omega
    ·grind
    ·omega)
   obtain⟨u2,y2,k2⟩:=hC (j::k::nw 0 (lcj x k i)) (fun a ha=>by
    simp only[J9]at ha;rcases ha with rfl|rfl|ha
    ·omega
    ·omega
    grind)
   exact(zYT h hE hT hk hc hL h1 (by omega) h2 k1 k2).2.1 (g2 i j (by omega) (by omega) h2 _ _ ⟨⟨u1,y1,rfl,k1⟩,⟨u2,y2,rfl,k2⟩⟩)
  ·obtain⟨u1,y1,k1⟩:=hC (nw 0 (x.zJ.getD k [])++[k]) (fun a ha=>by
    simp only[Jf,List.mem_singleton]at ha;rcases ha with ha|rfl
    ·grind
    ·omega)
   obtain⟨u2,y2,k2⟩:=hC (k::nw 0 (x.zJ.getD k [])) (fun a ha=>by
    simp only[J9]at ha;rcases ha with rfl|ha
    ·omega
    grind)
   exact(zYP h hE hT hk hc hL k1 k2).2.1 (g3 _ _ ⟨⟨u1,y1,rfl,k1⟩,⟨u2,y2,rfl,k2⟩⟩)
  ·obtain⟨u1,y1,k1⟩:=hC (k::(nw 0 (lcj x k j)++J1 (yE x k-1) k)) (fun a ha=>by
    simp only[Jf,J9]at ha;rcases ha with rfl|ha|ha
    ·omega
    ·grind
    grind)
   obtain⟨u2,y2,k2⟩:=hC (j::nw 0 (x.zJ.getD k [])) (fun a ha=>by
    simp only[J9]at ha;rcases ha with rfl|ha
    ·omega
    grind)
   exact(zYV h hE hT hk hc hL h1 h2 k1 k2).2.1 (g4 j (by omega) h2 _ _ ⟨⟨u1,y1,rfl,k1⟩,⟨u2,y2,rfl,k2⟩⟩)
theorem zQY(hx:xK (suf x 0))(hr:zCe x m D):zYW x D m T↔xK (suf (exx D x m T) 0):=by
 have hl:=xM h hE hT;have mi:∀k,k<x.zA.length→LC x k:=fun k hk=>((zA9 h.w hk).1 (zBf hx k)).2
 constructor
 ·intro g
  have key:∀(d k:Nat),k+d=x.zA.length→xK (suf (exx D x m T) k):=by
   intro d
   induction d with
   |zero=>grind[zIt]
   |succ d ih=>
    intro k hk;have hc:=ih (k+1) (by omega);refine(zA9 (zFn h hE hT) (by omega)).2 ⟨hc,zTr h hE hT hr (by omega) ((zJL h hE hT (by omega) (mi k (by omega)) hc).2 ⟨?_,?_,?_,?_⟩)⟩
    ·exact fun j h1 h2 t1 t2 b=>g.p1 k j h1 h2 t1 t2 b
    ·exact fun i j h1 eg h2 t1 t2 b=>g.p2 k i j h1 eg h2 t1 t2 b
    ·exact fun t1 t2 b=>g.p3 k (by omega) t1 t2 b
    ·exact fun j h1 h2 t1 t2 b=>g.p4 k j h1 h2 t1 t2 b
  simp_all
 ·intro g
  have g0:=(zKE h hE hT hr).1 g;have hck:∀k,k<x.zA.length→xK (suf (exx D x m T) (k+1)):=by grind[zBf]
  have key:=fun k(hk:k<x.zA.length)=>(zJL h hE hT hk (mi k hk) (hck k hk)).1 (g0 k hk)
  exact⟨fun k j h1 h2=>(key k (by omega)).1 j h1 h2,fun k i j h1 eg h2=>(key k (by omega)).2.1 i j h1 eg h2,fun k hk=>(key k hk).2.2.1,fun k j h1 h2=>(key k (by omega)).2.2.2 j h1 h2⟩
end
theorem Col.det{x:SPr}{k k':Nat}{w:List Nat}{t1 t2:List (Nat×List Nat)}{w1 w2:List Nat}(h1:Col x k w t1 w1)(h2:Col x k' w t2 w2)(n1:stS x w1=dK)(n2:stS x w2=dK):t1=t2∧w1=w2:=by
 induction h1 generalizing t2 with
 |refl w=>
  cases h2 with
  |refl=>simp
  |step _ hs _=>grind
 |step hw hs hc ih=>
  cases h2 with
  |refl=>grind
  |step _ pe fb=>
   grind
end Go.Pl

namespace Go.Pl
open Go Go.Ab Go.Wk Go.Pc
structure Fh (n D D2:Nat) (m m2:zC) (T T2:Mx) (φ:Vec→Vec):Prop where
 pr:m2.Prime=m.Prime
 row:∀u,Row m.Prime D u→Row m.Prime D2 (φ u)
 z:φ (zeros D)=zeros D2
 add:∀u v,Row m.Prime D u→Row m.Prime D v→φ (adv m.Prime D u v)=adv m.Prime D2 (φ u) (φ v)
 act:∀k,k<n→ ∀u,Row m.Prime D u→φ (xJ m.Prime D u (m.zG.getD k []))=xJ m.Prime D2 (φ u) (m2.zG.getD k [])
 t:∀r,r<base n n→φ (T.getD r [])=T2.getD r []
def Fm(φ:Vec→Vec)(N:Nat)(e:Vec):Vec:=e.take N++φ (e.drop N)
theorem zBt{φ:Vec→Vec}{N:Nat}{y u:Vec}(hy:y.length=N):Fm φ N (y++u)=y++φ u:=by grind[Fm]
theorem zGX{φ:Vec→Vec}{N:Nat}{b:Int}{e:Vec}:Fm φ (N+1) (b::e)=b::Fm φ N e:=by rfl
section
variable {D D2:Nat}{x:SPr}{m m2:zC}{T T2:Mx}{φ:Vec→Vec} (h:Pres x) (hE:ExB x.zA.length D x m T) (hT:∀i,i<T.length→Row m.Prime D (T.getD i [])) (gR:ExB x.zA.length D2 x m2 T2) (gX:∀i,i<T2.length→Row m2.Prime D2 (T2.getD i [])) (hF:Fh x.zA.length D D2 m m2 T T2 φ)
 include h hE hT gR gX hF
theorem yCT{k:Nat}(hk:k≤x.zA.length):Fm φ (x.zA.length-k) (zeros (suf (exx D x m T) k).length)=zeros (suf (exx D2 x m2 T2) k).length:=by rw[zBL h hE hT hk,zBL h gR gX hk,zBt (zV _),hF.z]
theorem zPT{k j:Nat}(h1:k+1≤j)(h2:j<x.zA.length):Fm φ (x.zA.length-(k+1)) ((lvl (exx D x m T) k).cs.getD (j-(k+1)) [])=(lvl (exx D2 x m2 T2) k).cs.getD (j-(k+1)) []:=by
 have hn:=hE.hn;have hb:=qD x.zA.length (by omega) k (by omega);have gA:V (suf x (k+1)) ((lcj x k j).drop (k+1)):=by grind[kU,vY]
 rw[zIr h hE hT (by omega) h1 h2,zIr h gR gX (by omega) h1 h2,show(lvl x k).cs.getD (j-(k+1)) []=(lcj x k j).drop (k+1)from map_drop,zBt (wR h (by omega) gA),hF.t _ (by omega)]
theorem yA5{k:Nat}(hk:k<x.zA.length):Fm φ (x.zA.length-(k+1)) (lvl (exx D x m T) k).w=(lvl (exx D2 x m2 T2) k).w:=by have hn:=hE.hn;have hb:=xW x.zA.length (by omega);have fN:V (suf x (k+1)) ((x.zJ.getD k []).drop (k+1)):=kU (kM h hk) hk;rw[zIn h hE hT hk,zIn h gR gX hk,show(lvl x k).w=(x.zJ.getD k []).drop (k+1)from rfl,zBt (wR h (by omega) fN),hF.t _ (by omega)]
theorem zTA{k:Nat}(hk:k<x.zA.length)(ih:∀a b,V (suf (exx D x m T) (k+1)) a→V (suf (exx D x m T) (k+1)) b→Fm φ (x.zA.length-(k+1)) (mul (suf (exx D x m T) (k+1)) a b)=mul (suf (exx D2 x m2 T2) (k+1)) (Fm φ (x.zA.length-(k+1)) a) (Fm φ (x.zA.length-(k+1)) b)){v:Vec}(hv:V (suf (exx D x m T) (k+1)) v):
  Fm φ (x.zA.length-(k+1)) (sig (suf (exx D x m T) (k+1)) (lvl (exx D x m T) k) v)=sig (suf (exx D2 x m2 T2) (k+1)) (lvl (exx D2 x m2 T2) k) (Fm φ (x.zA.length-(k+1)) v):=by
 have hp:=hE.m.p.pos;have ok:=vS h hE hT (k:=k+1) (by omega);obtain⟨y,u,rfl,hy,hu⟩:=(sK h hE hT (x.zA.length-(k+1)) (k+1) (by omega) _).1 hv;have e7:=wR h (by omega) hy;have c8:Row m2.Prime D2 (φ u):=by rw[hF.pr];exact hF.row u hu
 have hsg:Fm φ (x.zA.length-(k+1)) (sgG D x m T k y)=sgG D2 x m2 T2 k y:=by
  unfold sgG;rw[zFo (S:=V (suf (exx D x m T) (k+1))) (n:=mul (suf (exx D2 x m2 T2) (k+1))) (Fm φ (x.zA.length-(k+1))) (fun a b=>yV ok) ih _ _ _ (zPI h hE hT hk) (xU ok),yCT h hE hT gR gX hF (by omega)]
  congr 1
  apply Hj
  ·grind[qZ]
  ·intro i h1 h2
   rw[Js,qZ h hE hT]at h1;have e1:(eC1 x T k)[i]'(by grind)=(lvl (exx D x m T) k).cs.getD (k+1+i-(k+1)) []:=by rw[show k+1+i-(k+1)=i from by omega,zC6 h hE hT hk,J3,K3 (by grind),J7 (by rw[qZ h hE hT];exact h1)];rfl
   have e2:(eC1 x T2 k)[i]'h2=(lvl (exx D2 x m2 T2) k).cs.getD (k+1+i-(k+1)) []:=by rw[show k+1+i-(k+1)=i from by omega,zC6 h gR gX hk,J3,K3 h2,J7 h2];rfl
   rw[List.getElem_map,e1,e2,zPT h hE hT gR gX hF (by omega) (by omega)]
 obtain⟨y1,u1,e,eY,fO⟩:=(sK h hE hT (x.zA.length-(k+1)) (k+1) (by omega) _).1 (zIp h hE hT hk (y:=y));have gL:=wR h (by omega) eY;rw[e,zBt gL]at hsg;rw[zC7 h hE hT hk hy hu,e,Jp gL,Jx gL,zBt gL,zBt e7,zC7 h gR gX hk hy c8,←hsg,Jp gL,Jx gL,hF.pr,hF.add _ _ fO (wU (by omega)),hF.act k hk u hu]
theorem zKR{k:Nat}(hk:k<x.zA.length)(ih:∀a b,V (suf (exx D x m T) (k+1)) a→V (suf (exx D x m T) (k+1)) b→Fm φ (x.zA.length-(k+1)) (mul (suf (exx D x m T) (k+1)) a b)=mul (suf (exx D2 x m2 T2) (k+1)) (Fm φ (x.zA.length-(k+1)) a) (Fm φ (x.zA.length-(k+1)) b)):∀(q:Nat){v:Vec},V (suf (exx D x m T) (k+1)) v→
  Fm φ (x.zA.length-(k+1)) (iter q (sig (suf (exx D x m T) (k+1)) (lvl (exx D x m T) k)) v)=iter q (sig (suf (exx D2 x m2 T2) (k+1)) (lvl (exx D2 x m2 T2) k)) (Fm φ (x.zA.length-(k+1)) v)
 |0,_,_=>rfl
 |q+1,v,hv=>by show Fm φ _ (iter q _ (sig _ _ v))=iter q _ (sig _ _ (Fm φ _ v));rw[zKR hk ih q (zBs h hE hT hk hv),zTA h hE hT gR gX hF hk ih hv]
theorem zOm:∀(d k:Nat),k+d=x.zA.length→ ∀a b,V (suf (exx D x m T) k) a→V (suf (exx D x m T) k) b→Fm φ (x.zA.length-k) (mul (suf (exx D x m T) k) a b)=mul (suf (exx D2 x m2 T2) k) (Fm φ (x.zA.length-k) a) (Fm φ (x.zA.length-k) b)
 |0,k,hk,a,b,ha,hb=>by
  have hp:=hE.m.p.pos;have bF:=gR.m.p.pos;rw[zAZ h hE hT D k (by omega) (by omega)]at ha hb ⊢
  rw[zAZ h gR gX D2 k (by omega) (by omega)];have py:=(zEl _ _).1 ha;have eE:=(zEl _ _).1 hb;have e:∀w:Vec,Fm φ (x.zA.length-k) w=φ w:=fun w=>by rw[Fm,show x.zA.length-k=0 from by omega];rfl
  rw[e,e,e,qY (by omega) D _ _ py eE,hF.add _ _ py eE,hF.pr,qY (by omega) D2 _ _ (hF.row _ py) (hF.row _ eE)]
 |d+1,k,hk,a,b,ha,hb=>by
  have p8:k<x.zA.length:=by omega
  have ih:=zOm d (k+1) (by omega);have hl:=xM h hE hT;have pP:=xM h gR gX;have ok:=vS h hE hT (k:=k+1) (by omega);have fA:=zQW h hE hT p8;rw[zY (x:=exx D x m T) (by omega)]at ha hb ⊢
  rw[zY (x:=exx D2 x m2 T2) (by omega)];cases a with
  |nil=>exact ha.elim
  |cons a u=>
  cases b with
  |nil=>exact hb.elim
  |cons b v=>
   obtain⟨_,ha⟩:=ha;obtain⟨_,hb⟩:=hb;have ef:=zOl h hE hT p8 b.toNat ha;have hm:=yV ok ef hb;rw[show x.zA.length-k=x.zA.length-(k+1)+1 from by omega,zGX,zGX,yP,yP,zCh h hE hT p8,zCh h gR gX p8,←zKR h hE hT gR gX hF p8 ih _ ha,←ih _ _ ef hb]
   by_cases g:a+b≥at0 x.zA k
   ·rw[if_pos g,if_pos g,zGX,ih _ _ fA hm,yA5 h hE hT gR gX hF p8]
   ·rw[if_neg g,if_neg g,zGX]
end
end Go.Pl

namespace Go.Pl
open Go Go.Ab Go.Wk Go.Pc
section
variable {D D2:Nat}{x:SPr}{m m2:zC}{T T2:Mx}{φ:Vec→Vec} (h:Pres x) (hE:ExB x.zA.length D x m T) (hT:∀i,i<T.length→Row m.Prime D (T.getD i [])) (gR:ExB x.zA.length D2 x m2 T2) (gX:∀i,i<T2.length→Row m2.Prime D2 (T2.getD i [])) (hF:Fh x.zA.length D D2 m m2 T T2 φ)
 include h hE hT gR gX hF
theorem zYX{k:Nat}(hk:k<x.zA.length){c:Vec}(hc:V (suf (exx D x m T) (k+1)) c):∀q,Fm φ (x.zA.length-(k+1)) (pw (mul (suf (exx D x m T) (k+1))) (zeros (suf (exx D x m T) (k+1)).length) c q)=pw (mul (suf (exx D2 x m2 T2) (k+1))) (zeros (suf (exx D2 x m2 T2) (k+1)).length) (Fm φ (x.zA.length-(k+1)) c) q
 |0=>yCT h hE hT gR gX hF (by omega)
 |q+1=>by have ok:=vS h hE hT (k:=k+1) (by omega);have hq:V (suf (exx D x m T) (k+1)) (pw (mul (suf (exx D x m T) (k+1))) (zeros (suf (exx D x m T) (k+1)).length) c q):=vG (by grind[yV]) q (xU ok);have ih:=zYX hk hc q;rw[pw,wW,pw,wW];show Fm φ _ (mul _ (pw _ _ c q) c)=mul _ (pw _ _ (Fm φ _ c) q) (Fm φ _ c);rw[zOm h hE hT gR gX hF _ (k+1) (by omega:k+1+(x.zA.length-(k+1))=x.zA.length) _ _ hq hc,ih]
theorem yA6{k j:Nat}(hk:k≤j)(hj:j<x.zA.length):V (suf (exx D x m T) (k+1)) (((exx D x m T).zJ.getD j []).drop (k+1))∧Fm φ (x.zA.length-(k+1)) (((exx D x m T).zJ.getD j []).drop (k+1))=((exx D2 x m2 T2).zJ.getD j []).drop (k+1):=by
 have hn:=hE.hn;have hb:=xW x.zA.length (by omega);have hpx:V (suf x (k+1)) ((x.zJ.getD j []).drop (k+1)):=by grind[kU,zKP,kM]
 rw[zE6 h hE hT hk hj,zE6 h gR gX hk hj];exact⟨by grind[zDY,zC8],by rw[zBt (wR h (by omega) hpx),hF.t _ (by omega)]⟩
theorem yA7{k i j:Nat}(hk:k≤i)(hi:i<j)(hj:j<x.zA.length):V (suf (exx D x m T) (k+1)) ((((exx D x m T).zB.getD i []).getD (j-(i+1)) []).drop (k+1))∧Fm φ (x.zA.length-(k+1)) ((((exx D x m T).zB.getD i []).getD (j-(i+1)) []).drop (k+1))=(((exx D2 x m2 T2).zB.getD i []).getD (j-(i+1)) []).drop (k+1):=by
 have hn:=hE.hn;have hb:=qD x.zA.length (by omega) i (by omega);have bY:V (suf x (k+1)) ((lcj x i j).drop (k+1)):=by grind[kU,zKP,vY]
 rw[zGe h hE hT hk hi hj,zGe h gR gX hk hi hj];exact⟨by grind[zDY,zEm],by rw[zBt (wR h (by omega) bY),hF.t _ (by omega)]⟩
theorem zWQ{k j:Nat}(h1:k+1≤j)(h2:j<x.zA.length):Fm φ (x.zA.length-(k+1)) (yZ ((exx D x m T).zA.length-(k+1)) (j-(k+1)))=yZ ((exx D2 x m2 T2).zA.length-(k+1)) (j-(k+1)):=by rw[zQV h hE hT h1 h2,zQV h gR gX h1 h2,zBt (by simp[yZ,zeros]),hF.z]
theorem zWR{k:Nat}(hk:k<x.zA.length):LCQ (fun k a b=>Fm φ (x.zA.length-k) a=Fm φ (x.zA.length-k) b) x (exx D x m T) k↔LCn x (exx D2 x m2 T2) k:=by
 have hl:=xM h hE hT;have ok:=vS h hE hT (k:=k+1) (by omega);have fZ:=zOm h hE hT gR gX hF _ (k+1) (by omega:k+1+(x.zA.length-(k+1))=x.zA.length);have ep:=fun v hv=>zTA h hE hT gR gX hF hk fZ (v:=v) hv
 have fA:=zQW h hE hT hk;have e1:∀j,k+1≤j→j<x.zA.length→(c1Q (fun k a b=>Fm φ (x.zA.length-k) a=Fm φ (x.zA.length-k) b) (exx D x m T) k j↔c1E (exx D2 x m2 T2) k j):=fun j h1 h2=>by obtain⟨p1,p2⟩:=yA6 h hE hT gR gX hF (k:=k) (j:=j) (by omega) h2;unfold c1Q c1E;show Fm φ _ _=Fm φ _ _↔_;rw[zYX h hE hT gR gX hF hk (zMF h hE hT hk h1 h2),zPT h hE hT gR gX hF h1 h2,ep _ p1,p2,tC h hE hT h2,tC h gR gX h2]
 have e2:∀i j,k+1≤i→i<j→j<x.zA.length→(c2Q (fun k a b=>Fm φ (x.zA.length-k) a=Fm φ (x.zA.length-k) b) (exx D x m T) k i j↔c2E (exx D2 x m2 T2) k i j):=fun i j h1 eg h2=>by obtain⟨p1,p2⟩:=yA7 h hE hT gR gX hF (k:=k) (by omega) eg h2;have ci:=zMF h hE hT hk h1 (by omega);have cj:=zMF h hE hT hk (by omega) h2;unfold c2Q c2E;show Fm φ _ _=Fm φ _ _↔_;rw[fZ _ _ cj ci,fZ _ _ ci (zBs h hE hT hk p1),zPT h hE hT gR gX hF h1 (by omega),zPT h hE hT gR gX hF (by omega) h2,ep _ p1,p2]
 have e3:Fm φ (x.zA.length-(k+1)) (sig (suf (exx D x m T) (k+1)) (lvl (exx D x m T) k) (lvl (exx D x m T) k).w)=Fm φ (x.zA.length-(k+1)) (lvl (exx D x m T) k).w↔sig (suf (exx D2 x m2 T2) (k+1)) (lvl (exx D2 x m2 T2) k) (lvl (exx D2 x m2 T2) k).w=(lvl (exx D2 x m2 T2) k).w:=by rw[ep _ fA,yA5 h hE hT gR gX hF hk]
 have e4:∀j,k+1≤j→j<x.zA.length→(c4Q (fun k a b=>Fm φ (x.zA.length-k) a=Fm φ (x.zA.length-k) b) (exx D x m T) k j↔c4E (exx D2 x m2 T2) k j):=fun j h1 h2=>by have hg:=zDz h hE hT h1 h2;unfold c4Q c4E;show Fm φ _ _=Fm φ _ _↔_;rw[fZ _ _ fA (zOl h hE hT hk _ hg),fZ _ _ hg fA,zKR h hE hT gR gX hF hk fZ _ hg,zWQ h hE hT gR gX hF h1 h2,yA5 h hE hT gR gX hF hk,zCh h hE hT hk,zCh h gR gX hk]
 constructor
 ·intro g
  exact⟨fun j h1 h2=>(e1 j h1 h2).1 (g.c1 j h1 h2),fun i h1 hi j eg h2=>(e2 i j h1 (by omega) h2).1 (g.c2 i h1 hi j eg h2),e3.1 g.c3,fun j h1 h2=>(e4 j h1 h2).1 (g.c4 j h1 h2)⟩
 ·intro g
  exact⟨fun j h1 h2=>(e1 j h1 h2).2 (g.c1 j h1 h2),fun i h1 hi j eg h2=>(e2 i j h1 (by omega) h2).2 (g.c2 i h1 hi j eg h2),e3.2 g.c3,fun j h1 h2=>(e4 j h1 h2).2 (g.c4 j h1 h2)⟩
theorem zTB{m0:zC}(hM:Mv D x.zA.length m0 m)(hx:xK (suf x 0))(hr:zCe x m2 D2):∃L,zIY ⟨x,m0,T⟩=dJ L∧L.length≤1000∧(∀r∈L,Row m.Prime D r)∧((∀r∈L,φ r=zeros D2)↔xK (suf (exx D2 x m2 T2) 0)):=by
 have hp:=hE.m.p.pos;have bF:=gR.m.p.pos;obtain⟨L,e,g⟩:=zTz h hE hT hM (Z:=fun r=>φ r=zeros D2) (Q:=fun k a b=>Fm φ (x.zA.length-k) a=Fm φ (x.zA.length-k) b) (fun k hk a b ha hb e=>by
  obtain⟨y,u,rfl,hy,hu,_,e7⟩:=prV h hE hT hk ha;obtain⟨z,v,rfl,hz,hv,_,cm⟩:=prV h hE hT hk hb;rw[Jp e7,Jp cm]at e;subst e;rw[Jx e7,Jx e7,zBt e7,zBt e7,Uf];have ha:=zBp (p:=m.Prime) (D:=D) (r:=u) (s:=v) (k:=-1) hE.m.p;have hs:adv m.Prime D (uW m.Prime D u (-1) v) v=u:=by refine Eq.trans (yA (g:=fun j=>at0 u j) fun j hj=>?_) (vC hu.1).symm;have hr:=hu.2 j hj;rw[uW,yC hj,Int.emod_add_emod,show at0 u j+ -1*at0 v j+at0 v j=at0 u j from by omega,K1 (by omega) (by omega)]
  have hφ:=hF.add _ _ ha hv;rw[hs]at hφ;have hra:=hF.row _ ha;have hrv:=hF.row _ hv;constructor
  ·intro g
   rw[hφ,g,vO hrv]
  ·intro g
   rw[hφ,tJ]at g;have:=(zWG (u:=φ v) hra (xC (p:=m.Prime) (D:=D2) (by omega))).1 (by grind[zBq]);exact this) hx
 refine⟨L,e,g.len,g.row,g.iff.trans ?_⟩
 grind[zKE,zWR]
end
end Go.Pl

namespace Go.Pl
open Go Go.Ab Go.Wk Go.Pc
theorem zKS{D:Nat}{f:Nat→Int}:∀B:Nat,S (B*D) f=S B fun q=>S D fun l=>f (q*D+l)
 |0=>by rw[Qm];rfl
 |B+1=>by rw[K7,zGS,zKS B];rfl
def blk(D:Nat)(w:Vec)(q:Nat):Vec:=mkv D fun j=>at0 w (q*D+j)
theorem zAf{D B q l:Nat}(hq:q<B)(hl:l<D):q*D+l<B*D:=by
 have:=Jw D (show q+1≤B by omega)
 grind
theorem zPU{p:Int}{D B:Nat}{w:Vec}(hw:Row p (B*D) w){q:Nat}(hq:q<B):Row p D (blk D w q):=
 ⟨zU _ _,fun j hj=>by rw[blk,yC hj];exact hw.2 _ (zAf hq hj)⟩
theorem sM{D q l:Nat}(hl:l<D):(q*D+l)/D=q∧(q*D+l)%D=l:=by grind[Nat.mul_comm,Nat.mul_add_div,Nat.div_eq_of_lt,Nat.mul_add_mod,Nat.mod_eq_of_lt]
def ABk(B D:Nat)(A:Mx):Mx:=gl (B*D) fun i=>mkv (B*D) fun j=>if i/D=j/D then ent A (i%D) (j%D)else 0
theorem zPV{B D:Nat}{A:Mx}{i j:Nat}(hi:i<B*D)(hj:j<B*D):ent (ABk B D A) i j=if i/D=j/D then ent A (i%D) (j%D)else 0:=by
 show at0 ((gl (B*D) _).getD i []) j=_
 grind[yC]
theorem zWS{p:Int}{B D:Nat}{A:Mx}(hp:2≤p)(hD:0<D)(hA:Mat p D A):Mat p (B*D) (ABk B D A):=by
 refine⟨yN,fun i hi=>?_⟩;rw[ABk,wA hi];refine⟨zU _ _,fun j hj=>?_⟩;rw[yC hj];split
 ·exact(hA.2 (i%D) (Gz _ hD)).2 _ (Gz _ hD)
 ·omega
theorem zMH{p:Int}{B D:Nat}{u:Vec}{A:Mx}{q l:Nat}(hq:q<B)(hl:l<D):at0 (xJ p (B*D) u (ABk B D A)) (q*D+l)=S D (fun i=>at0 u (q*D+i)*ent A i l)%p:=by
 rw[xJ,yC (zAf hq hl),zKS]
 congr 1
 rw[zAR (k:=q) hq fun i hi gg=>?_]
 ·refine xL fun i hi=>?_
  rw[zPV (zAf hq hi) (zAf hq hl),(sM hi).1,(sM hi).2,(sM hl).1,(sM hl).2,if_pos rfl]
 ·rw[xL (g:=fun _=>0) fun j hj=>?_,qK]
  rw[zPV (zAf hi hj) (zAf hq hl),(sM hj).1,(sM hl).1,if_neg gg,Lt]
theorem zWT{p:Int}{B D:Nat}{u:Vec}{A:Mx}{q:Nat}(hq:q<B):blk D (xJ p (B*D) u (ABk B D A)) q=xJ p D (blk D u q) A:=by
 refine yA fun l hl=>?_
 grind[zMH,xL,blk,yC]
theorem zMI{D B:Nat}{w:Vec}(hw:w.length=B*D){q:Nat}(hq:q<B):(w.drop (q*D)).take D=blk D w q:=by
 have h1:=Jw D (show q+1≤B by omega);rw[K7]at h1;apply Hj
 ·grind[blk,zU]
 grind[blk,mkv]
theorem zTC{D B:Nat}{w:Vec}(hw:w.length=B*D){q:Nat}(hq:q<B):w.take (q*D)++blk D w q=w.take ((q+1)*D):=by rw[←zMI hw hq,K7,List.take_add]
def mBk(B D n:Nat)(m:zC):zC:=⟨m.Prime,((B*D:Nat):Int),(Jh n).map fun k=>ABk B D (m.zG.getD k [])⟩
theorem zKT{B D n:Nat}{m:zC}{k:Nat}(hk:k<n):(mBk B D n m).zG.getD k []=ABk B D (m.zG.getD k []):=by grind[mBk]
theorem yA8{B D n:Nat}{m:zC}(hm:MOk n m D)(h2:B*D≤200):zSW n (mBk B D n m) (B*D):=by have h1:=hm.d1;have hp:=hm.p.pos;refine⟨hm.p,h2,by simp[mBk],fun i hi=>?_⟩;rw[zKT hi];exact zWS (by show 2≤m.Prime;omega) (by omega) (hm.mat i hi)
theorem yA9{B D n:Nat}{m:zC}(hm:MOk n m D)(h2:B*D≤200):Mv (B*D) n m (mBk B D n m):=by
 refine⟨rfl,fun k hk u hu=>?_⟩;have h1:=hm.d1;have h3:=hm.d3;have eS:=hu.1;have bJ:=hm.len;have hA:=hm.mat k hk;rw[zKT hk];have hR:(xJ m.Prime (B*D) u (ABk B D (m.zG.getD k []))).length=B*D:=by rw[xJ,zU]
 unfold zUS;have:=zM (body:=zF6 m u (k:Int)) (r:=xJ m.Prime (B*D) u (ABk B D (m.zG.getD k []))) (fun i=>((xJ m.Prime (B*D) u (ABk B D (m.zG.getD k []))).take (i*D),((i*D:Nat):Int))) B (fun i hi=>by
  have gJ:=Jw D (show i+1≤B by omega);rw[K7]at gJ;unfold zF6;simp only
  rw[dP (by omega),zK,hm.d,zF (by omega) (by omega),bs];have fC:zQ u ((i*D:Nat):Int) (((i*D:Nat):Int)+(D:Int))=dJ (blk D u i):=by
   unfold zQ;rw[if_pos ⟨by omega,by omega,by omega⟩]
   congr 1
   rw[show(((i*D:Nat):Int)+(D:Int)).toNat=i*D+D from by omega,J8,Lv];exact zMI eS hi
  rw[fC,bs,zT [] (by omega),bs,zCz hm.p (by omega) (zPU hu hi) hA,bs,←zWT (B:=B) hi,zP (by rw[L4,blk,zU];omega),bs,zTC hR hi,bs,K7];rfl) (by
  unfold zF6;simp only
  rw[dO (by omega),zL,Jr (by omega)])
 rw[Qm,Km]at this;rw[show((0:Nat):Int)=0 from rfl]at this;rw[this,bs];rfl
def phi(p:Int)(B D:Nat)(c w:Vec):Vec:=mkv D fun j=>S B (fun q=>at0 c q*at0 w (q*D+j))%p
theorem zWU{p:Int}{B D:Nat}{c w:Vec}(hp:2≤p):Row p D (phi p B D c w):=⟨zU _ _,fun j hj=>by rw[phi,yC hj];exact⟨Kv _ (by omega),by have:=Ki (S B fun q=>at0 c q*at0 w (q*D+j)) (show 0<p by omega);omega⟩⟩
def Tc(N D:Nat)(c:Vec):Mx:=gl N fun i=>blk D c i
theorem yAA{n B D N:Nat}{m:zC}{TB:Mx}{c:Vec}(hm:MOk n m D)(hN:B=N*D)(hb:base n n=N)(hc:Row m.Prime B c)(ht:∀i,i<N→TB.getD i []=mkv (B*D) fun j=>if j/D=i*D+j%D then 1 else 0):Fh n (B*D) D (mBk B D n m) m TB (Tc N D c) (phi m.Prime B D c):=by
 have hp:=hm.p.pos;have h1:=hm.d1;refine⟨rfl,fun u _=>zWU (by show 2≤m.Prime;omega),?_,fun u v hu hv=>?_,fun k hk u hu=>?_,fun r hr=>?_⟩
 ·rw[show zeros D=mkv D fun _=>0 from vX D]
  refine yA fun j hj=>?_
  rw[xL (g:=fun _=>0) fun q hq=>by rw[uM,Lt],qK];simp
 ·refine yA fun j hj=>?_
  rw[phi,phi,yC hj,yC hj];show _%m.Prime=(_%m.Prime+_%m.Prime)%m.Prime;rw[←K9,←zDp];refine zAA fun q hq=>?_
  rw[yC (zAf hq hj),←Int.mul_add];show(at0 c q*((at0 u (q*D+j)+at0 v (q*D+j))%m.Prime))%m.Prime=_
  grind[Jv,Jz]
 ·rw[zKT hk]
  refine yA fun j hj=>?_
  show S B (fun q=>at0 c q*at0 (xJ m.Prime (B*D) u (ABk B D (m.zG.getD k []))) (q*D+j))%m.Prime=S D (fun l=>at0 (phi m.Prime B D c u) l*ent (m.zG.getD k []) l j)%m.Prime;rw[zAA (g:=fun q=>at0 c q*S D (fun i=>at0 u (q*D+i)*ent (m.zG.getD k []) i j)) (by grind[zMH,Jv,Jz])];rw[zAA (f:=fun l=>at0 (phi m.Prime B D c u) l*ent (m.zG.getD k []) l j) (g:=fun l=>S B (fun q=>at0 c q*at0 u (q*D+l))*ent (m.zG.getD k []) l j) (by grind[phi,yC,Jv,Jz])]
  congr 1
  rw[xL (g:=fun q=>S D (fun i=>at0 c q*(at0 u (q*D+i)*ent (m.zG.getD k []) i j))) (by grind[zDq]),zHV];refine xL fun l hl=>?_
  rw[←zMl]
  grind
 ·rw[hb]at hr
  rw[ht r hr,Tc,wA hr];refine yA fun j hj=>?_
  have gJ:r*D+j<B:=by rw[hN];exact zAf hr hj
  rw[zAR (k:=r*D+j) gJ fun q hq gg=>?_]
  ·rw[yC (zAf gJ hj),(sM hj).1,(sM hj).2,if_pos rfl,Ln]
   have:=hc.2 _ gJ;exact K1 this.1 (by omega)
  ·rw[yC (zAf hq hj),(sM hj).1,(sM hj).2,if_neg gg,Lt]
end Go.Pl

namespace Go.Pl
open Go Go.Ab Go.Wk Go.Pc
def uT(N D:Nat):Mx:=gl N fun i=>mkv (N*D*D) fun j=>if j/D=i*D+j%D then 1 else 0
section
variable {x:SPr}{m:zC}{D:Nat} (hx:sU x) (hD:MOk x.zA.length m D)
 include hx hD
theorem zTD{D2:Nat}{m2:zC}{T:Mx}(hm:zSW x.zA.length m2 D2)(ht:T.length=base x.zA.length x.zA.length):ExB x.zA.length D2 x m2 T:=by have _:=hD;refine⟨hx.n6,rfl,hx.pl,hx.cl,fun i hi=>?_,ht,hm⟩;have:=(hx.tl i hi).2.1;omega
theorem zYY{y:Vec}(hy:Row m.Prime (base x.zA.length x.zA.length*D) y):ExB x.zA.length D x m (Tc (base x.zA.length x.zA.length) D y)∧ ∀i,i<(Tc (base x.zA.length x.zA.length) D y).length→Row m.Prime D ((Tc (base x.zA.length x.zA.length) D y).getD i []):=by
 refine⟨zTD hx hD hD.b yN,fun i hi=>?_⟩
 grind[Tc,zPU]
theorem zTE(h0:0<x.zA.length)(hc:xK (suf x 0))(hr:zCe x m D):∃L,zIY ⟨x,m,uT (base x.zA.length x.zA.length) D⟩=dJ L∧L.length≤1000∧(∀r∈L,Row m.Prime (base x.zA.length x.zA.length*D*D) r)∧
  ∀y,Row m.Prime (base x.zA.length x.zA.length*D) y→((∀r∈L,phi m.Prime (base x.zA.length x.zA.length*D) D y r=zeros D)↔xK (suf (exx D x m (Tc (base x.zA.length x.zA.length) D y)) 0)):=by
 have h6:=hx.n6;have hb:=xW x.zA.length (by omega);have h1:=hD.d1;have h3:=hD.d3;have hp:=hD.p.pos;have hB:base x.zA.length x.zA.length*D≤21*3:=Ka hb.2.1 h3;have hBD:base x.zA.length x.zA.length*D*D≤63*3:=Ka (by omega) h3;have hE:=zTD hx hD (T:=uT (base x.zA.length x.zA.length) D) (yA8 (B:=base x.zA.length x.zA.length*D) hD (by omega)) yN;have hT:∀i,i<(uT (base x.zA.length x.zA.length) D).length→Row (mBk (base x.zA.length x.zA.length*D) D x.zA.length m).Prime (base x.zA.length x.zA.length*D*D) ((uT (base x.zA.length x.zA.length) D).getD i []):=fun i hi=>by rw[uT,yN]at hi;rw[uT,wA hi];refine⟨zU _ _,fun j hj=>?_⟩;rw[yC hj];show _∧_≤m.Prime-1;omega
 have hM:=yA9 (B:=base x.zA.length x.zA.length*D) hD (by omega);have key:∀y,Row m.Prime (base x.zA.length x.zA.length*D) y→ ∃L,zIY ⟨x,m,uT (base x.zA.length x.zA.length) D⟩=dJ L∧L.length≤1000∧(∀r∈L,Row m.Prime (base x.zA.length x.zA.length*D*D) r)∧((∀r∈L,phi m.Prime (base x.zA.length x.zA.length*D) D y r=zeros D)↔xK (suf (exx D x m (Tc (base x.zA.length x.zA.length) D y)) 0)):=fun y hy=>by obtain⟨e1,e2⟩:=zYY hx hD hy;exact zTB hx.toPres hE hT e1 e2 (yAA hD rfl rfl hy (by grind[uT])) hM hc hr
 obtain⟨L,l1,l2,l3,_⟩:=key (zeros (base x.zA.length x.zA.length*D)) (xC (by omega))
 grind
end
def zFw(D k:Nat)(L:Mx):List Int:=(L.map fun r=>blk D r k).flatten
theorem zMJ{D k:Nat}:∀L:Mx,(zFw D k L).length=L.length*D
 | []=>by rw[zFw];simp
 |r::L=>by
  have ih:=zMJ (D:=D) (k:=k) L
  grind[zFw,blk,zU]
theorem zKU{D k:Nat}:∀(L:Mx)(i j:Nat),i<L.length→j<D→at0 (zFw D k L) (i*D+j)=at0 (L.getD i []) (k*D+j)
 | [],i,j,hi,_=>by simp at hi
 |r::L,i,j,hi,hj=>by
  have hl:(blk D r k).length=D:=zU _ _;simp only[zFw,Jt,G6];cases i with
  |zero=>
   rw[Qm,Jd,H6,at0,J3,K3 (by omega),←J3];show at0 (blk D r k) j=_;rw[blk,yC hj]
  |succ i=>
   have ih:=zKU (D:=D) (k:=k) L i j (by grind) hj;simp only[zFw]at ih
   grind
theorem zTF{p:Int}{B D:Nat}{L:Mx}{y:Vec}:(∀c,c<L.length*D→(S B fun k=>at0 y k*ent (gl B fun k=>zFw D k L) k c)%p=0)↔ ∀r∈L,phi p B D y r=zeros D:=by
 have e:∀i j,i<L.length→j<D→(S B fun k=>at0 y k*ent (gl B fun k=>zFw D k L) k (i*D+j))%p=at0 (phi p B D y (L.getD i [])) j:=fun i j hi hj=>by
  rw[phi,yC hj]
  congr 1
  refine xL fun k hk=>?_
  show at0 y k*at0 ((gl B fun k=>zFw D k L).getD k []) (i*D+j)=_
  grind[zKU]
 constructor
 ·intro g r hr
  obtain⟨i,hi,rfl⟩:=K6.1 hr;rw[show zeros D=mkv D fun _=>0 from vX D,vC (D:=D) (v:=phi p B D y L[i]) (zU _ _)];refine yA fun j hj=>?_
  have:=e i j hi hj;rw[J3,J7 hi]at this;rw[←g _ (zAf hi hj),this];rfl
 ·intro g c hc
  have hD:0<D:=by grind
  have hi:c/D<L.length:=(U9 hD).2 hc;have hj:c%D<D:=Gz _ hD;rw[show c=c/D*D+c%D from by grind[Gf],e _ _ hi hj,g _ (by rw[J3,J7 hi];exact Ke hi),uM]
end Go.Pl

namespace Go.Pl
open Go Go.Ab Go.Wk Go.Pc
def zBM(p:Int)(D:Nat)(m:zC):List (Nat×List Nat)→Nat→Nat→Nat→Int
 | [],_,_,_=>0
 |(q,s)::t,r,i,j=>(if q=r then ent (wM p D m.zG s (idM D)) i j else 0)+zBM p D m t r i j
section
variable {p:Int}{D N:Nat}{m:zC}{y:Vec}
theorem zTG{j:Nat}(hj:j<D):∀t:List (Nat×List Nat),(∀q∈t,q.1<N)→at0 (tv p D m (Tc N D y) t) j=(S N fun r=>S D fun i=>at0 y (r*D+i)*zBM p D m t r i j)%p
 | [],_=>by
  show at0 (zeros D) j=_;rw[uM,xL (g:=fun _=>0) fun r _=>by rw[xL (g:=fun _=>0) fun i _=>by rw[zBM,Lt],qK],qK]
  rfl
 |(q,s)::t,h=>by
  have hq:q<N:=h (q,s) (by simp);have ih:=zTG hj t (by grind);show at0 (adv p D (xJ p D ((Tc N D y).getD q []) (wM p D m.zG s (idM D))) (tv p D m (Tc N D y) t)) j=_;rw[show adv p D=fun u v=>mkv D fun j=>(at0 u j+at0 v j)%p from rfl];show at0 (mkv D _) j=_;rw[yC hj,ih,xJ,yC hj,←K9]
  congr 1
  have e:(S N fun r=>S D fun i=>at0 y (r*D+i)*zBM p D m ((q,s)::t) r i j)=
    (S N fun r=>S D fun i=>at0 y (r*D+i)*(if q=r then ent (wM p D m.zG s (idM D)) i j else 0))+S N fun r=>S D fun i=>at0 y (r*D+i)*zBM p D m t r i j:=by
   rw[←zDp];refine xL fun r _=>?_
   rw[←zDp]
   grind[zBM]
  rw[e]
  congr 1
  rw[zAR (k:=q) hq fun r _ hr=>by rw[xL (g:=fun _=>0) (by grind),qK]]
  refine xL fun l hl=>?_
  rw[if_pos rfl,Tc,wA hq,blk,yC hl]
end
def prR(p:Int)(D:Nat)(m:zC)(t1 t2:List (Nat×List Nat))(k:Nat):List Int:=mkv D fun j=>(zBM p D m t1 (k/D) (k%D) j-zBM p D m t2 (k/D) (k%D) j)%p
section
variable {p:Int}{D N:Nat}{m:zC}{y:Vec}
theorem zPW(hp:2≤p){t1 t2:List (Nat×List Nat)}(h1:∀q∈t1,q.1<N)(h2:∀q∈t2,q.1<N):
  (∀j,j<D→(S (N*D) fun k=>at0 y k*at0 (prR p D m t1 t2 k) j)%p=0)↔tv p D m (Tc N D y) t1=tv p D m (Tc N D y) t2:=by
 have e:∀j,j<D→(S (N*D) fun k=>at0 y k*at0 (prR p D m t1 t2 k) j)%p=(at0 (tv p D m (Tc N D y) t1) j-at0 (tv p D m (Tc N D y) t2) j)%p:=fun j hj=>by
  rw[zTG hj t1 h1,zTG hj t2 h2,←Up,zKS];have e1:((S N fun r=>S D fun i=>at0 y (r*D+i)*zBM p D m t1 r i j)-S N fun r=>S D fun i=>at0 y (r*D+i)*zBM p D m t2 r i j)=S N fun r=>S D fun i=>at0 y (r*D+i)*(zBM p D m t1 r i j-zBM p D m t2 r i j):=by
   have:(S N fun r=>S D fun i=>at0 y (r*D+i)*zBM p D m t1 r i j)=(S N fun r=>S D fun i=>at0 y (r*D+i)*(zBM p D m t1 r i j-zBM p D m t2 r i j))+S N fun r=>S D fun i=>at0 y (r*D+i)*zBM p D m t2 r i j:=by
    rw[←zDp];refine xL fun r _=>?_
    rw[←zDp]
    grind
   omega
  rw[e1];refine zAA fun r _=>zAA fun i hi=>?_
  grind[sM,prR,yC,Jv,Jz]
 constructor
 ·intro g
  have r1:=zKM (D:=D) (m:=m) (T:=Tc N D y) hp t1;have r2:=zKM (D:=D) (m:=m) (T:=Tc N D y) hp t2;rw[vC r1.1,vC r2.1];refine yA fun j hj=>?_
  have k:=e j hj;rw[g j hj]at k;have b1:=r1.2 j hj;have b2:=r2.2 j hj;have:=Q0 (at0 (tv p D m (Tc N D y) t1) j-at0 (tv p D m (Tc N D y) t2) j) (Jag p);have dp:p∣at0 (tv p D m (Tc N D y) t1) j-at0 (tv p D m (Tc N D y) t2) j:=by omega
  obtain⟨c,hc⟩:=dp;have:c=0:=by
   rcases Int.lt_trichotomy c 0 with gF|h0|hgt
   ·have:p*c≤p*(-1):=Lz (by omega) (by omega)
    omega
   ·exact h0
   ·have:p*1≤p*c:=Lz (by omega) (by omega)
    omega
  grind
 simp_all
end
end Go.Pl
