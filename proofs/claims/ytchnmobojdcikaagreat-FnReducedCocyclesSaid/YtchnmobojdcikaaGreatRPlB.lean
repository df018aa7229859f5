/- x -/
import Derived.Test.YtchnmobojdcikaaGreatRPlA
open List renaming replicate→J1,getD_eq_getElem?_getD→J2,getElem?_eq_getElem→J5,length_append→J7,range→J8,append_nil→J9,length_replicate→Ja,mem_cons→Jb,length_cons→Jd,mem_append→Jf,length_map→Jg,append_assoc→Jh,getElem?_append_right→Ji,replicate_append_replicate→Jl,mem_map→Jn,take_of_length_le→Jo,take_left'→Jr,map_cons→Js,replicate_succ→Jt,nil_append→Jv,getElem?_map→Jx,mem_iff_getElem→Jz,getElem?_append_left→K0,getElem_mem→K3,drop_left'→K4,eq_nil_of_length_eq_zero→K6,reverse_reverse→K8,length_nil→K9,cons_append→Kc,length_take→Kf,take_zero→Ki,getElem?_replicate→Km,drop_append_of_le_length→Kq,length_drop→Kv,ext_getElem?→Kw,replicate_succ'→Kz,getElem?_eq_none→La,range_succ→Lb,take_succ_cons→Lf,drop_replicate→Lg,mem_range→Ll,getElem?_drop→Lt,map_append→Lu,replicate_zero→Hb,eq_of_mem_replicate→He,flatten_cons→Hi,drop_zero→Hq,reverse_cons→Hx,foldl_cons→Gb,getD_cons_zero→Gd,foldl_append→Gi,getElem?_take_of_lt→Gk,flatMap_append→Gm,drop_of_length_le→Gv,map_nil→Gy,drop_eq_getElem_cons→Gz,map_congr_left→Uc,getElem?_replicate_of_lt→Uk,map_map→Q6,flatten_append→Qb,range_succ_eq_map→Qg,not_mem_nil→Qh,set_append_right→Qs,mem_of_mem_head?→Qt,take→Ja0,cons→Ja8,length→Jad,head?_cons→Jah,getElem?_cons_succ→Jai
open Int renaming toNat_natCast->J6,mul_emod->Ju,emod_emod->Jy,emod_eq_of_lt->K5,add_emod->Kd,emod_lt_of_pos->Ke,emod_nonneg->Kr,zero_add->L4,mul_zero->Lp,add_zero->Lv,natCast_add->H0,mul_one->H2,toNat_zero->Ge,zero_mul->U0,natCast_mul->Uh,add_emod_right->Um,sub_emod->Uq,toNat_of_nonneg->Ql,one_mul->Qm,add_emod_emod->Jal,sub_mul->Jan,zero_emod->Jb8
open Nat renaming zero_add->Jc,le_refl->Je,lt_or_ge->Jk,mul_le_mul->Jp,mul_le_mul_right->Jw,succ_mul->K7,zero_le->Kg,sub_self->Kx,add_sub_cancel_left->Ky,add_assoc->H7,min_eq_left->Hl,min_eq_right->Gg,sub_zero->Uo,le_mul_of_pos_right->Qq,add_zero->Qy,lt_of_not_le->Ja5,lt_irrefl->Jb6,eq_zero_or_pos->Jb7
open Bool renaming not_true->Jq
open Option renaming some->Kt
open Prod renaming mk->Ja3
open Option renaming some->iW,none->iY
open Bool renaming true->iZ,false->ja
namespace Go.Pl
open Go Go.Ab Go.Wk Go.Pc
theorem zQ6{a b:List Int}(ha:a.length<=1000:=by omega)(hb:b.length<=1000:=by omega):f_z [a,b]=iW (a++b):=by grind[kO]
theorem zKs{v:Int}{k:Nat}(hk:k<=1000):∀d c:Nat,c<=k->(c=0->k=0)->k-c<=d->zH zDf (J1 c v++J1 (k-c) 0,(c:Int))=iW (J1 k v):=by
 intro d
 induction d with
 |zero=>
  intro c h1 _ h3;obtain rfl:c=k:=by omega
  rw[yR];unfold zDf;simp
 |succ d ih=>
  intro c h1 h2 h3
  by_cases hc:c=k
  ·grind
  ·have hl:(J1 c v++J1 (k-c) (0:Int)).length=k:=by simp;omega
   have s1:zL (J1 c v++J1 (k-c) (0:Int)) (c:Int) (k:Int)=iW (((J1 c v++J1 (k-c) (0:Int)).drop c).take (k-c)):=by
    unfold zL
    simp_all
   have s2:zL (J1 c v++J1 (k-c) (0:Int)) 0 (c:Int)=iW (J1 c v):=by
    unfold zL
    simp_all
   have e1:(J1 c v).take (k-c)=J1 (min (k-c) c) v:=by simp
   have e2:wP (J1 c v++J1 (k-c) (0:Int)) c (J1 (min (k-c) c) v)=J1 (c+min c (k-c)) v++J1 (k-(c+min c (k-c))) 0:=by
    unfold wP;rw[Jr (by simp),Ja,Nat.min_comm (k-c) c,Jl,List.drop_append,Ja,Gv (by rw[Ja];omega),Jv,Lg]
    congr 2;omega
   have hb:zDf (J1 c v++J1 (k-c) 0,(c:Int))=iW (.inl (J1 (c+min c (k-c)) v++J1 (k-(c+min c (k-c))) 0,((c+min c (k-c):Nat):Int))):=by
    unfold zDf;simp only
    rw[hl,yN,zK,s1,bs,s2,bs,Ja];simp only[J6];rw[e1,e2,<-H0,zG,bs]
   rw[yR,hb];exact ih (c+min c (k-c)) (by omega) (by omega) (by omega)
theorem zOL{v:Int}{k:Nat}(hk:k<=30):f_n [v] (k:Int)=iW (J1 k v):=by
 have key:∀k:Nat,k<31->zVL 1 (IntKind.wrap .u64 (k:Int))=iW (0,(k:Int))/\yD (IntKind.wrap .i64 (k:Int))=iW k:=by decide+kernel
 obtain⟨k1,k2⟩:=key k (by omega);unfold f_n;rw[jb (by omega),zM,zMV k1,bs];simp only[k2,bs];rw[show decide ((0:Int)> 0)=ja from rfl,zM,jb (by omega),zM]
 by_cases h0:k=0
 ·subst h0
  have:=zKs (v:=v) (k:=0) (by omega) 0 0 (by omega) (by omega) (by omega);rw[show wP (J1 0 (0:Int)) 0 (([v]:List Int).take ((J1 0 (0:Int)).length-0))=J1 0 v++J1 (0-0) 0 from rfl,show((min ([v]:List Int).length ((J1 0 (0:Int)).length-0):Nat):Int)=((0:Nat):Int)from rfl,this,bs]
 ·have:=zKs (v:=v) (k:=k) (by omega) k 1 (by omega) (by omega) (by omega)
  have e1:wP (J1 k (0:Int)) 0 (([v]:List Int).take ((J1 k (0:Int)).length-0))=J1 1 v++J1 (k-1) 0:=by
   unfold wP
   grind
  grind
theorem zRS{O:List Int}{N:Nat}(hO:O.length=N)(hN:N<=100:=by omega):f_X O=iW ⟨O,gl N (fun _=>J1 N 0),gl N (unC N)⟩:=by
 have gS:∀i,i<N->zH (zSv O) ([],((i+1:Nat):Int))=iW (unC N i):=fun i hi=>by
  have:=zQ (body:=zSv O) (r:=unC N i) (fun j=>(gl j fun j=>tV N (i+1+j),((i+1+j:Nat):Int))) (N-1-i) (fun j hj=>by
   unfold zSv;simp only
   rw[hO,yN,zK,zBd,bs,zX (by grind),bs,zG,bs,cs,jR (F:=fun j=>tV N (i+1+j))];rfl) (by
   unfold zSv;simp only
   rw[hO,show i+1+(N-1-i)=N from by omega,qT,zM,unC])
  exact this
 have:=zQ (body:=zSw O) (r:=(gl N (fun _=>J1 N 0),gl N (unC N))) (fun i=>(gl i (fun _=>J1 N (0:Int)),gl i (unC N),((i:Nat):Int))) N (fun i hi=>by
  unfold zSw;simp only
  rw[hO,yN hi,zK,yP,bs,zX (by grind),bs,zG,bs,cs,gS i hi,bs,zX (by rw[xI];simp;omega),bs,bs,jR (F:=unC N),jR (F:=fun _=>J1 N (0:Int))]) (by
  unfold zSw
  grind)
 unfold f_X;rw[zAx,bs]
 grind
section
variable {n D:Nat}{x:SPr}{m:zB}{T:Mx} (h:zLq n D x m T)
 include h
def exG(n N:Nat)(x:SPr)(m:zB)(T:Mx)(i t q:Nat):List Int:=if q<t then exF n x m T i q else tV N (i+1+q)
def exE(n D:Nat)(x:SPr)(m:zB)(T:Mx)(i t k:Nat):Mx:=if k<i then exC n D x m T k else if k=i then gl (n+D-1-i) (exG n (n+D) x m T i t)else unC (n+D) k
theorem zOM{i t:Nat}:exE n D x m T i t i=gl (n+D-1-i) (exG n (n+D) x m T i t):=by have _:=h;rw[exE,if_neg (by omega),if_pos rfl]
theorem zQ7{i t:Nat}:(gl (n+D) (exE n D x m T i t)).set i ((gl (n+D-1-i) (exG n (n+D) x m T i t)).set t (exF n x m T i t))=gl (n+D) (exE n D x m T i (t+1)):=by
 have _:=h;rw[zEX,zEX];refine zAX fun k _=>?_
 by_cases hk:k=i
 ·subst hk
  rw[if_pos rfl,zOM h];refine zAX fun q _=>?_
  simp only[exG]
  grind
 ·rw[if_neg hk,exE,exE,if_neg hk,if_neg hk]
theorem zIP{i k:Nat}:exE n D x m T i 0 k=if k<i then exC n D x m T k else unC (n+D) k:=by
 have _:=h;rw[exE]
 by_cases h1:k<i
 ·grind
 ·rw[if_neg h1,if_neg h1]
  by_cases h2:k=i
  ·subst h2
   rw[if_pos rfl];rfl
  grind
theorem zUg{i:Nat}(hi:i<n):gl (n+D) (exE n D x m T i (n+D-1-i))=gl (n+D) (exE n D x m T (i+1) 0):=by
 refine zAX fun k _=>?_
 rw[zIP h,exE]
 by_cases h1:k<i
 ·grind
 ·rw[if_neg h1]
  by_cases h2:k=i
  ·subst h2
   rw[if_pos rfl,if_pos (by omega),exC,if_pos hi];exact zAX fun q hq=>by rw[exG,if_pos hq]
  grind
theorem yEd{i:Nat}(hi:i<n){C:List Mx}{w:Int}:zH (zPw T (C,w,(i:Int)) (x.zC.getD i [])) (gl (n+D) (exE n D x m T i 0),((base n i:Nat):Int),0)=iW (gl (n+D) (exE n D x m T i (n-1-i)),((base n (i+1):Nat):Int)):=by
 have h6:=h.hn;have h3:=h.m.d3;have hc:=h.cl i hi;have hb:=zBW n (by omega) i hi;have eO:=xY n (by omega);have:=zQ (body:=zPw T (C,w,(i:Int)) (x.zC.getD i [])) (r:=(gl (n+D) (exE n D x m T i (n-1-i)),((base n (i+1):Nat):Int))) (fun j=>(gl (n+D) (exE n D x m T i j),((base n i+j:Nat):Int),((j:Nat):Int))) (n-1-i) (fun j hj=>by
  have a1:=h.ce i j;have a2:=h.tl (base n i+j);have e:exF n x m T i j=(x.zC.getD i []).getD j []++T.getD (base n i+j) []:=if_pos hj;unfold zPw;simp only
  rw[hc,yN hj,zK,zY [],bs,zBV,bs,zY [] (by rw[h.t];omega),bs,zQ6,bs,zOM h,zBV,bs,zG,bs,zG,bs,cs,cs,<-e,J6,J6,zQ7 h];rfl) (by
  unfold zPw;simp only
  rw[hc,qT,zM,zKr n (by omega) i hi])
 exact this
theorem yEe{i:Nat}(hi:i<n){C:List Mx}{w:Int}:zH (zPx x (C,w,(i:Int)) (m.zF.getD i [])) (gl (n+D) (exE n D x m T i (n-1-i)),0)=iW (gl (n+D) (exE n D x m T (i+1) 0)):=by
 have h6:=h.hn;have h3:=h.m.d3;have io:=h.m.mat i hi;have:=zQ (body:=zPx x (C,w,(i:Int)) (m.zF.getD i [])) (r:=gl (n+D) (exE n D x m T (i+1) 0)) (fun j=>(gl (n+D) (exE n D x m T i (n-1-i+j)),((j:Nat):Int))) D (fun j hj=>by
  have e:exF n x m T i (n-1-i+j)=J1 n 0++(m.zF.getD i []).getD j []:=by rw[exF,if_neg (by omega),show n-1-i+j-(n-1-i)=j from by omega]
  have hr:=(io.2 j hj).1;unfold zPx;simp only
  rw[io.1,yN hj,zK,zY [] (by grind),bs,zBV,bs,h.o,zG,bs,zG,bs,zG,bs,show(0:Int)=((0:Nat):Int)from rfl,zMW,bs,
   show(n:Int)-1-(i:Int)+(j:Int)=((n-1-i+j:Nat):Int)from by omega,zOM h,zBV,bs,zG,bs,cs,Hb,J9,<-e,J6,J6,zQ7 h];rfl) (by
  unfold zPx;simp only
  rw[io.1,qT,zM,show n-1-i+D=n+D-1-i from by omega,zUg h hi])
 exact this
theorem yEf:zH (zPy x m T) (gl (n+D) (unC (n+D)),((n:Nat):Int),0)=iW (gl (n+D) (exC n D x m T)):=by
 have h6:=h.hn;have h3:=h.m.d3;have eO:=xY n (by omega);have:=zQ (body:=zPy x m T) (r:=gl (n+D) (exC n D x m T)) (fun i=>(gl (n+D) (exE n D x m T i 0),((base n i:Nat):Int),((i:Nat):Int))) n (fun i hi=>by
  unfold zPy;simp only
  rw[h.o,yN hi,zK,zY [] (by rw[h.c];exact hi),bs,yEd h hi,bs,zY [] (by rw[h.m.len];exact hi),bs,yEe h hi,bs,zG,bs,cs]) (by
  unfold zPy;simp only
  rw[h.o,qT,zM]
  congr 2
  refine zAX fun k _=>?_
  rw[zIP h,exC]
  grind)
 have e:gl (n+D) (exE n D x m T 0 0)=gl (n+D) (unC (n+D)):=zAX fun k _=>by rw[zIP h,if_neg (by omega)]
 grind
theorem yEg:zH (zPv x T) (gl (n+D) (fun _=>J1 (n+D) 0),0,0)=iW (gl (n+D) (exP n D x T),((n:Nat):Int)):=by
 have h6:=h.hn;have h3:=h.m.d3;have eO:=xY n (by omega);have:=zQ (body:=zPv x T) (r:=(gl (n+D) (exP n D x T),((n:Nat):Int))) (fun i=>(gl (n+D) (fun k=>if k<i then exP n D x T k else J1 (n+D) 0),((i:Nat):Int),((i:Nat):Int))) n (fun i hi=>by
  have a1:=h.pl i;have a2:=h.tl i;have e:exP n D x T i=x.zJ.getD i []++T.getD i []:=if_pos hi;unfold zPv;simp only
  rw[h.p,yN hi,zK,zY [] (by rw[h.p];exact hi),bs,zY [] (by rw[h.t];omega),bs,zQ6,bs,zBV,bs,zG,bs,bs,cs,<-e,J6,zEX]
  grind) (by
  unfold zPv;simp only
  rw[h.p,qT,zM]
  congr 3
  refine zAX fun k _=>?_
  by_cases hk:k<n
  ·grind
  ·rw[if_neg hk,exP,if_neg hk])
 grind
theorem zXT{v:Int}:f_n [v] m.Dim=iW (J1 D v):=by rw[h.m.d];exact zOL (by have:=h.m.d3;omega)
theorem zUh:f_r x m T=iW (ext n D x m T):=by
 have h6:=h.hn;have h3:=h.m.d3;unfold f_r;rw[zAx (by rw[h.o];omega),bs,zXT h,bs,zX (by rw[h.o];simp;omega),bs,zRS (N:=n+D) (by rw[J7,h.o];simp),bs];simp only
 rw[yEg h,bs,yEf h,bs];rfl
end
theorem zKt{α:Type}{c:α->Nat}{b:Nat}:∀{xs:List α},(∀x∈xs,c x<=b)->sm c xs<=xs.length*b
 | [],_=>by simp[sm]
 |x::xs,h=>by
  have h1:=zKt (xs:=xs) fun y hy=>h y (by simp[hy])
  grind[sm,K7]
theorem zON{xs:Mx}{b:Nat}(h:∀i,i<xs.length->(xs.getD i []).length<=b)(i:Nat):(xs.getD i []).length<=b:=by grind
theorem zCV{x:SPr}{n:Nat}(ho:x.zA.length=n)(hn:n<=6:=by omega):zLK x=iW ((base n n:Nat):Int):=by
 unfold zLK;rw[ho];have key:∀n:Nat,n<7->((rng ((n:Int)-1)).bind fun v1=>(rng ((n:Int)*v1)).bind fun v2=>(xV v2 2).bind fun v3=>(rng ((n:Int)+v3)).bind fun v4=>iW v4)=iW ((base n n:Nat):Int):=by decide+kernel
 grind
theorem zIQ{x:SPr}{n:Nat}(ho:x.zA.length=n)(hn:n<=6):zWe x=iW ((base n n:Nat):Int):=by
 unfold zWe;rw[ho];have key:∀n:Nat,n<7->((rng ((n:Int)+1)).bind fun v1=>(rng ((n:Int)*v1)).bind fun v2=>(xV v2 2).bind fun v3=>iW v3)=iW ((base n n:Nat):Int):=by decide+kernel
 grind
theorem zLq.ofX{x:SPr}{m:zB}{D:Nat}{T:Mx}(hx:sJ x)(hm:yB1 x.zA.length m D)(ht:T.length=base x.zA.length x.zA.length)(fa:∀i,(T.getD i []).length<=30):zLq x.zA.length D x m T:=by
 have h6:=hx.n6;refine⟨h6,rfl,hx.pl,hx.cl,fun i hi=>by have:=(hx.tl i hi).2.1;omega,zON fun i hi=>?_,fun i=>?_,ht,fa,hm⟩
 ·have:=(hx.tl i (by rw[<-hx.pl];exact hi)).1.1.1
  omega
 ·rcases Jk i x.zA.length with g|g
  ·refine zON fun j hj=>?_
   have:=((hx.tl i g).2.2 j hj).1.1;omega
  ·have e:x.zC.getD i []=[]:=by rw[J2,La (by rw[hx.cl];exact g)];rfl
   grind
theorem zLq.of{x:SPr}{m:zB}{D:Nat}{T:Mx}(hx:sJ x)(hm:MOk x.zA.length m D)(ht:T.length=base x.zA.length x.zA.length)(fa:∀i,(T.getD i []).length<=3):zLq x.zA.length D x m T:=.ofX hx hm.x ht (by grind)
theorem zG9{xs:Mx}(h:xs.length<=100000)(hl:∀i,i<xs.length->(xs.getD i []).length<=1000000):zLM xs=iW xs:=by
 unfold zLM;rw[uX (body:=zK7 xs) xs.length (fun i=>xs.getD i []) (fun i acc hi ha=>by
  unfold zK7;simp only
  rw[yN hi,zK,zY [] hi,bs,wZ (hl i hi),bs,zX (by simp;omega),bs,zG,bs,cs]) (fun acc=>by
  unfold zK7;simp),bs]
 congr 1
 exact(zUa rfl).symm
theorem zOO{v:List Int}{k:Nat}(hl:v.length<=1000000)(hk:k<v.length)(h0:∀j,j<k->at0 v j=0)(h1:at0 v k≠0):zYE v=iW (k:Int):=by
 unfold zYE;have:=zQ (body:=zNY v) (r:=.inr (k:Int)) (fun i=>(i:Int)) k (fun i hi=>by
  unfold zNY zYD;rw[yN,zK,yJ,bs,bs,h0 i hi,bne_self_eq_false,zM,zG,bs,cs]) (by
  unfold zNY zYD;rw[yN hk,zK,yJ hk,bs,bs,kZ h1,zK])
 grind
section
variable {p:Int} (hp:Prime p) {n:Nat} (hn:n<=100000) {R:Mx}{pv:Nat->Nat} (h:Red p n R pv) {v:List Int} (hv:Row p n v)
 include hp hn h
theorem zNd(hm:R.length<=100000):zYF R=iW (gl R.length fun i=>(pv i:Int)):=by
 have h7:=hp.pos;unfold zYF;rw[uX (body:=zNZ R) R.length (fun i=>(pv i:Int)) (fun i acc hi ha=>by
  have hr:=h.row i hi;have h1:=h.one i hi;unfold zNZ;simp only
  rw[yN hi,zK,zY [] hi,bs,zOO (k:=pv i) (by rw[hr.1];omega) (by grind) (fun j hj=>h.low i hi j hj) (by grind),bs,zX (by simp;omega),bs,zG,bs,cs]) (fun acc=>by
  unfold zNZ;simp),bs]
 include hv
theorem zUi{i:Nat}(hi:i<R.length):wQ p n (cl p n R pv v i) (0-at0 (cl p n R pv v i) (pv i)) (R.getD i [])=cl p n R pv v (i+1):=by
 have _:=hp;have _:=hn;have _:=h;have _:=hv;have _:=hi;rw[cl];refine zV fun j _=>?_
 generalize at0 (cl p n R pv v i) (pv i)=a
 generalize at0 (R.getD i []) j=b
 rw[Jan,Jan,U0];have e:at0 (cl p n R pv v i) j+(p*b-a*b)=at0 (cl p n R pv v i) j+(0-a*b)+p*b:=by omega
 simp_all
theorem zDL{c:Int}(hm:R.length<=100000):zWm (zN.mk p c R) v=iW (cl p n R pv v R.length):=by
 have h7:=hp.pos;have:=zQ (body:=zK8 (zN.mk p c R) (gl R.length fun i=>(pv i:Int))) (r:=cl p n R pv v R.length) (fun i=>(cl p n R pv v i,(i:Int))) R.length (fun i hi=>by
  have hr:=zAy hp hn h hv i;have ha:=hr.2 (pv i) (h.lt i hi);unfold zK8;simp only
  rw[xI,yN hi,zK,zBV hi,bs,zY [] hi,bs,yJ (by rw[hr.1];exact h.lt i hi),bs,zG,bs,qK hp hr (h.row i hi) (by omega) (by omega),bs,zG,bs,cs,zUi hp hn h hv hi]) (by
  unfold zK8;simp)
 unfold zWm;rw[zAx (by rw[hv.1];omega),bs];simp only
 rw[zNd hp hn h hm,bs];have e:zH (zK8 (zN.mk p c R) (gl R.length fun i=>(pv i:Int))) (v,0)=iW (cl p n R pv v R.length):=this;rw[e,bs]
theorem zQ8:(∀j,j<n->at0 (cl p n R pv v R.length) j=0)↔Sp p n R v:=by
 have h7:=hp.pos;obtain⟨cf,fe⟩:=zLo hp hn h hv R.length (Je _);have hr:=zAy hp hn h hv R.length;have hs:Sp p n R (mkv n fun j=>S R.length fun k=>cf k*ent R k j):=⟨cf,by grind[zT]⟩;constructor
 ·intro h0
  refine tN (v:=mkv n fun _=>0) (w:=mkv n fun j=>S R.length fun k=>cf k*ent R k j) (k:=-1) (zAa fun j hj=>by rw[zT hj];rfl) hs fun j hj=>?_
  have h1:=fe j hj;rw[h0 j hj]at h1;rw[zT hj,zT hj]
  generalize (S R.length fun k=>cf k*ent R k j)=s at h1 ⊢
  have h2:(at0 v j+s)%p=0:=by rw[<-h1];rfl
  have h3:(at0 v j-(0+ -1*s))%p=0:=by grind
  exact Int.emod_eq_emod_iff_emod_sub_eq_zero.2 h3
 ·intro pR j hj
  have h1:Sp p n R (cl p n R pv v R.length):=tN (k:=1) pR hs fun j hj=>by rw[fe j hj,zT hj,Qm]
  have h2:=h.expand h1 j hj;rw[xK (g:=fun _=>0) (fun i hi=>by rw[zLn hp hn h hv R.length (Je _) i hi,U0]),tZ]at h2;have h3:=hr.2 j hj;rw[K5 h3.1 (by omega)]at h2;rw[h2];rfl
end
section
variable {p:Int} (hp:1<p) {n:Nat}{R R':Mx}{pv pv':Nat->Nat} (h:Red p n R pv) (h':Red p n R' pv') (hs:∀i,i<R.length->Sp p n R' (R.getD i []))
 include hp h h' hs
theorem Red.lt_of{i i2 k k2:Nat}(hii:i<i2)(fx:i2<R.length)(hk:k<R'.length)(e:pv' k=pv i)(e2:pv' k2=pv i2):k<k2:=by
 have _:=hp;have _:=hs;have h1:=h.mono i i2 hii fx;refine Classical.byContradiction fun hn=>?_
 rcases Jk k2 k with g|g
 ·have:=h'.mono k2 k g hk;omega
 grind
theorem Red.low_in:∀i,i<R.length-> ∃k,k<R'.length/\pv' k=pv i/\i<=k:=by
 intro i
 induction i with
 |zero=>intro hi;obtain⟨k,hk,e⟩:=h.piv_in hp h' hs hi;grind
 |succ i ih=>
  intro hi;obtain⟨k,hk,e,hik⟩:=ih (by omega);obtain⟨k2,fd,e2⟩:=h.piv_in hp h' hs hi;have:=h.lt_of hp h' hs (by simp) hi hk e e2
  grind
theorem Red.le_of:R.length<=R'.length:=by
 rcases Jb7 R.length with g|g
 ·omega
 ·obtain⟨k,hk,_,hik⟩:=h.low_in hp h' hs (R.length-1) (by omega)
  omega
end
theorem zFK{u v:List Int}{j:Nat}:at0 (u++v) j=if j<u.length then at0 u j else at0 v (j-u.length):=by grind
theorem zBF{v:List Int}{c j:Nat}:at0 (v.drop c) j=at0 v (c+j):=by simp
theorem zDM{v:List Int}{c j:Nat}(h:j<c):at0 (v.take c) j=at0 v j:=by grind
theorem zFL{f:Nat->Int}(t:Nat):∀d:Nat,S (t+d) f=S t f+S d (fun i=>f (t+i))
 |0=>by simp[S]
 |d+1=>by rw[<-H7];simp only[S];rw[zFL t d];omega
theorem yB4{f:Nat->Int}{t n:Nat}(ht:t<=n)(h:∀i,i<t->f i=0):S n f=S (n-t) (fun i=>f (t+i)):=by
 have e:n=t+(n-t):=by omega
 conv=>lhs;rw[e,zFL,xK (g:=fun _=>0) h,tZ]
 omega
theorem zXU{f:Nat->Int}{t n:Nat}(ht:t<=n)(h:∀i,t<=i->i<n->f i=0):S n f=S t f:=by
 have e:n=t+(n-t):=by omega
 conv=>lhs;rw[e,zFL,xK (f:=fun i=>f (t+i)) (g:=fun _=>0) (by grind),tZ]
 omega
theorem xR{F:Nat->List Int}{m i:Nat}(h:i<m:=by omega):(gl m F).getD i []=F i:=by grind
def ur(N i:Nat):List Int:=mkv N fun j=>if j=i then 1 else 0
def wd(N:Nat)(A:Mx):Mx:=gl N fun i=>A.getD i []++ur N i
def Gr(p:Int)(c N:Nat)(A:Mx)(u:List Int):Prop:=∀j,j<c->at0 u j%p=(S N fun k=>at0 u (c+k)*ent A k j)%p
section
variable {p:Int} (hp:1<p) {c N:Nat}{A:Mx} (hA:∀i,i<N->Row p c (A.getD i []))
 include hA
theorem zCW:(wd N A).length=N:=by have _:=hA;exact xI
theorem zHF{i j:Nat}(hi:i<N)(hj:j<c):ent (wd N A) i j=ent A i j:=by rw[ent,wd,xR hi,zFK,(hA i hi).1,if_pos hj]
theorem zC5{i l:Nat}(hi:i<N)(hl:l<N):ent (wd N A) i (c+l)=if l=i then 1 else 0:=by
 rw[ent,wd,xR hi,zFK,(hA i hi).1,if_neg (by omega),Ky,ur,zT hl]
 include hp
theorem zUj{i:Nat}(hi:i<N):Row p (c+N) ((wd N A).getD i []):=by
 refine⟨by rw[wd,xR hi,J7,(hA i hi).1,ur,zU],fun j hj=>?_⟩;rcases Jk j c with g|g
 ·have:=(hA i hi).2 j g
  have e:=zHF hA hi g
  grind
 ·have e:=zC5 hA (l:=j-c) hi (by omega)
  grind
theorem yEh{u:List Int}:Sp p (c+N) (wd N A) u↔Gr p c N A u:=by
 have _:=hp;constructor
 ·rintro⟨cf,fe⟩ j hj
  rw[zCW hA]at fe;rw[<-fe j (by omega)];refine zAV fun k hk=>?_
  have h1:=fe (c+k) (by omega);rw[zBo (k:=k) hk (fun i hi gk=>by rw[zC5 hA hi hk,if_neg (Ne.symm gk),Lp]),zC5 hA hk hk,if_pos rfl,H2]at h1;rw[zHF hA hk hj,Ju,h1,<-Ju]
 ·intro h
  refine⟨fun k=>at0 u (c+k),fun j hj=>?_⟩;rw[zCW hA];rcases Jk j c with g|g
  ·rw[h j g]
   refine congrArg (· %p) (xK fun k hk=>?_);rw[zHF hA hk g]
  ·obtain⟨l,rfl⟩:∃l,j=c+l:=⟨j-c,by omega⟩
   rw[zBo (k:=l) (by omega) (fun i hi gk=>by rw[zC5 hA hi (by omega),if_neg (Ne.symm gk),Lp]),zC5 hA (by omega) (by omega),if_pos rfl,H2]
variable {W:Mx}{pv:Nat->Nat} (hW:Red p (c+N) W pv) (hs:kW p (c+N) W (wd N A))
 include hW
theorem yB5:∃t,t<=W.length/\(∀i,i<t->pv i<c)/\ ∀i,t<=i->i<W.length->c<=pv i:=by
 have _:=hA;have _:=hp;obtain⟨t,ht,eV⟩:=zE7 (p:=fun t=>W.length<=t\/c<=pv t) ⟨W.length,.inl (Je _)⟩;have gJ:∀i,i<t->i<W.length/\pv i<c:=fun i hi=>by have:=eV i hi;exact⟨Ja5 fun h=>this (.inl h),Ja5 fun h=>this (.inr h)⟩
 refine⟨t,Nat.le_of_not_lt fun h=>?_,fun i hi=>(gJ i hi).2,fun i hi fx=>?_⟩
 ·have:=(gJ W.length h).1;omega
 ·rcases ht with h|h
  ·omega
  ·rcases Jk t i with g|g
   ·have:=hW.mono t i g fx;omega
   ·rw[show i=t from by omega];exact h
def nul(c t:Nat)(W:Mx):Mx:=gl (W.length-t) fun i=>(W.getD (t+i) []).drop c
def lft(c t:Nat)(W:Mx):Mx:=gl t fun i=>(W.getD i []).take c
 omit hp hA hW in
theorem zFM{t i j:Nat}(hi:t+i<W.length:=by omega):ent (nul c t W) i j=ent W (t+i) (c+j):=by
  rw[ent,nul,xR,zBF]
 omit hp hA hW in
theorem zFN{t i j:Nat}(hi:i<t)(hj:j<c:=by omega):ent (lft c t W) i j=ent W i j:=by rw[ent,lft,xR hi,zDM hj]
variable {t:Nat} (ht:t<=W.length) (h1:∀i,i<t->pv i<c) (h2:∀i,t<=i->i<W.length->c<=pv i)
 include ht h1 h2
theorem zXV:Red p N (nul c t W) (fun i=>pv (t+i)-c):=by
 have _:=hp;have _:=hA;have _:=h1;have _:=ht;have hl:(nul c t W).length=W.length-t:=xI;have hpc:∀i,i<W.length-t->c<=pv (t+i):=by grind
 refine⟨fun i hi=>?_,fun i hi=>?_,fun i hi=>?_,fun i hi j hj=>?_,fun i k hi hk gk=>?_,fun i j gR hj=>?_⟩
 ·rw[hl]at hi
  have hr:=hW.row (t+i) (by omega);refine⟨by rw[nul,xR hi,Kv,hr.1];omega,fun j hj=>?_⟩;have:=hr.2 (c+j) (by omega)
  grind[nul]
 ·rw[hl]at hi
  have:=hW.lt (t+i) (by omega)
  grind
 ·rw[hl]at hi
  rw[zFM,show c+(pv (t+i)-c)=pv (t+i)from by grind];exact hW.one _ (by omega)
 ·rw[hl]at hi
  rw[zFM];exact hW.low _ (by omega) _ (by omega)
 ·rw[hl]at hi hk
  rw[zFM,show c+(pv (t+i)-c)=pv (t+i)from by grind];exact hW.off _ _ (by omega) (by omega) (by omega)
 ·rw[hl]at hj
  have:=hW.mono (t+i) (t+j) (by omega) (by omega)
  grind
 include hs
theorem yB6{u:List Int}:Sp p (c+N) W u↔Gr p c N A u:=by have _:=hW;have _:=ht;have _:=h1;have _:=h2;exact hs.iff.trans (yEh hp hA)
theorem yB7{x:List Int}:Sp p N (nul c t W) x↔ ∀j,j<c->(S N fun k=>at0 x k*ent A k j)%p=0:=by
 have hl:(nul c t W).length=W.length-t:=xI;constructor
 ·rintro⟨cf,fe⟩ j hj
  rw[hl]at fe;have e1:(S N fun k=>at0 x k*ent A k j)%p=(S N fun k=>(S (W.length-t) fun i=>cf i*ent (nul c t W) i k)*ent A k j)%p:=by grind[zAV,Ju]
  have e2:(S N fun k=>(S (W.length-t) fun i=>cf i*ent (nul c t W) i k)*ent A k j)=S (W.length-t) fun i=>cf i*S N fun k=>ent W (t+i) (c+k)*ent A k j:=by
   rw[xK (g:=fun k=>S (W.length-t) fun i=>cf i*(ent W (t+i) (c+k)*ent A k j)) (fun k hk=>by rw[<-zMN];exact xK (by grind[zFM])),zIF]
   grind[zDG]
  have e3:(S (W.length-t) fun i=>cf i*S N fun k=>ent W (t+i) (c+k)*ent A k j)%p=(S (W.length-t) fun _=>0)%p:=zAV fun i hi=>by have h:=(yB6 hp hA hW hs ht h1 h2).1 (qD (p:=p) (n:=c+N) (R:=W) (i:=t+i)) j hj;have hz:=hW.low (t+i) (by omega) j (by grind);simp only[ent]at hz;rw[hz]at h;rw[Ju,show(S N fun k=>ent W (t+i) (c+k)*ent A k j)%p=0 from h.symm,Lp]
  rw[e1,e2,e3,tZ];rfl
 ·intro h0
  let u:List Int:=mkv (c+N) fun j=>if j<c then 0 else at0 x (j-c)
  have ct:∀j,j<c->at0 u j=0:=fun j hj=>by rw[zT,if_pos hj]
  have cP:∀k,k<N->at0 u (c+k)=at0 x k:=fun k hk=>by rw[zT,if_neg (by omega),Ky]
  have hg:Gr p c N A u:=fun j hj=>by rw[ct j hj,xK (g:=fun k=>at0 x k*ent A k j) (by grind),h0 j hj];rfl
  have hx:=hW.expand ((yB6 hp hA hW hs ht h1 h2).2 hg);refine⟨fun i=>at0 u (pv (t+i)),fun j hj=>?_⟩;have h3:=hx (c+j) (by omega);rw[cP j hj,yB4 ht (by grind)]at h3;rw[hl,h3];exact congrArg (· %p) (xK (by grind[zFM]))
theorem zXW:Red p c (lft c t W) pv:=by
 have _:=hp;have _:=hA;have _:=hs;have _:=h2;have hl:(lft c t W).length=t:=xI;refine⟨fun i hi=>?_,by grind,fun i hi=>?_,fun i hi j hj=>?_,fun i k hi hk gk=>?_,fun i j gR hj=>hW.mono i j gR (by omega)⟩
 ·rw[hl]at hi
  have hr:=hW.row i (by omega);refine⟨by rw[lft,xR hi,Kf,hr.1];omega,fun j hj=>?_⟩;rw[lft,xR hi,zDM hj];exact hr.2 j (by omega)
 ·rw[hl]at hi
  rw[zFN hi (h1 i hi)];exact hW.one _ (by omega)
 ·rw[hl]at hi
  have:=h1 i hi;rw[zFN hi];exact hW.low _ (by omega) _ hj
 ·rw[hl]at hi hk
  rw[zFN hk (h1 i hi)];exact hW.off _ _ (by omega) (by omega) gk
theorem yB8(fN:A.length=N):kW p c (lft c t W) A:=by
 have hl:(lft c t W).length=t:=xI;constructor
 ·intro i hi
  rw[hl]at hi;have hg:=(yB6 hp hA hW hs ht h1 h2).1 (qD (p:=p) (n:=c+N) (R:=W) (i:=i));refine⟨fun k=>ent W i (c+k),fun j hj=>?_⟩;rw[fN,lft,xR hi,zDM hj];exact(hg j hj).symm
 ·intro k hk
  rw[fN]at hk;obtain⟨cf,fe⟩:=hs.2 k (by rw[zCW hA];exact hk);refine⟨cf,fun j hj=>?_⟩;have h3:=fe j (by omega);have e:=zHF hA hk hj;simp only[ent]at e;rw[e,zXU ht (fun i g1 g2=>by rw[hW.low i g2 j (by grind),Lp])]at h3;rw[hl,<-h3];exact congrArg (· %p) (by grind[xK,zFN])
end
theorem zFO{v:List Int}(hl:v.length<=1000000:=by omega):IsB (f_V v) (∀i,i<v.length->at0 v i=0):=by
 refine qS v.length (fun i=>at0 v i=0) rfl (fun i hi _=>?_) ?_
 ·refine uW (o:=iW (at0 v i==0)) (IsB.of_bool (by simp)) (by omega) ?_
  unfold zNA;rw[yN hi,zK,yJ hi,bs,bs];rfl
 ·unfold zNA
  simp
section
variable {n D:Nat}{m:zB} (hm:MOk n m D) (hn:n<=14)
 include hm hn
def yEi(m:zB)(D:Nat)(rows:Mx):Prop:=∀i,i<rows.length->Row m.Prime D (rows.getD i [])
theorem zLr{rows:Mx}(hl:rows.length<=1048576):IsB (yCj m rows) (yEi m D rows):=by
 have _:=hn;have h3:=hm.d3;refine qS (body:=zNP m rows) rows.length (fun i=>Row m.Prime D (rows.getD i [])) rfl (fun i hi _=>?_) ?_
 ·refine uW (zDK hm.p (D:=D)) (by omega) ?_
  unfold zNP;rw[yN hi,zK,zY [] hi,bs,hm.d]
 ·unfold zNP
  simp
end
structure Nul (p:Int) (c N:Nat) (A W:Mx) (pv:Nat->Nat) (t:Nat):Prop where
 row:∀i,i<N->Row p c (A.getD i [])
 len:A.length=N
 red:Red p (c+N) W pv
 sp:kW p (c+N) W (wd N A)
 le:t<=W.length
 lo:∀i,i<t->pv i<c
 hi:∀i,t<=i->i<W.length->c<=pv i
section
variable {p:Int} (hp:Prime p) {c N:Nat} (gG:c+N<=100000) {A W:Mx}{pv:Nat->Nat}{t:Nat}
 include hp gG
theorem Nul.get(hr:∀i,i<N->Row p c (A.getD i []))(hl:A.length=N):∃W pv t,Nul p c N A W pv t/\f_C p (wd N A)=iW W/\f_i p (wd N A)=iW W:=by have h7:=hp.pos;obtain⟨W,pv,r1,r2,r3,r4⟩:=zAW hp (n:=c+N) gG (rows:=wd N A) (by rw[zCW hr];omega) (fun i hi=>zUj (by omega) hr (by rwa [zCW hr]at hi));obtain⟨t,t1,t2,t3⟩:=yB5 (by omega) hr r3;exact⟨W,pv,t,⟨hr,hl,r3,r4,t1,t2,t3⟩,r1,r2⟩
variable (h:Nul p c N A W pv t)
 include h
theorem Nul.nred:Red p N (nul c t W) (fun i=>pv (t+i)-c):=by have _:=gG;have h7:=hp.pos;exact zXV (by omega) h.row h.red h.le h.lo h.hi
theorem Nul.nsp{x:List Int}:Sp p N (nul c t W) x↔ ∀j,j<c->(S N fun k=>at0 x k*ent A k j)%p=0:=by have _:=gG;have h7:=hp.pos;exact yB7 (by omega) h.row h.red h.sp h.le h.lo h.hi
theorem Nul.full:W.length=N:=by
 have h7:=hp.pos;have g1:W.length<=(wd N A).length:=zIO hp (n:=c+N) gG (by rw[zCW h.row];omega) (fun i hi=>zUj (by omega) h.row (by rwa [zCW h.row]at hi)) h.red h.sp;rw[zCW h.row]at g1;have hl:(gl W.length fun i=>(W.getD i []).drop c).length=W.length:=xI;have hR:∀i,i<W.length->Row p N ((gl W.length fun i=>(W.getD i []).drop c).getD i []):=fun i hi=>by have hr:=h.red.row i hi;rw[xR hi];refine⟨by rw[Kv,hr.1];omega,fun j hj=>?_⟩;rw[zBF];exact hr.2 (c+j) (by omega)
 obtain⟨R3,pv3,_,_,g3,g4⟩:=zAW hp (n:=N) (by omega) (rows:=gl W.length fun i=>(W.getD i []).drop c) (by omega) (by grind);have g5:=zIO hp (n:=N) (by omega) (by omega) (by grind) g3 g4;have eQ:(gl N (ur N)).length=N:=xI;have iE:∀i j,i<N->j<N->ent (gl N (ur N)) i j=if j=i then 1 else 0:=fun i j hi hj=>by rw[ent,xR hi,ur,zT hj]
 have eL:Red p N (gl N (ur N)) (fun i=>i):=by
  refine⟨fun i hi=>?_,fun i hi=>by omega,fun i hi=>?_,fun i hi j hj=>?_,by grind,fun i j gR hj=>gR⟩
  ·rw[eQ]at hi
   rw[xR hi];refine⟨zU _ _,fun j hj=>?_⟩
   grind
  all_goals grind
 have g6:=eL.le_of (by omega) g3 (fun i hi=>by rw[eQ]at hi;refine g4.iff.2 ?_;obtain⟨cf,fe⟩:=h.sp.2 i (by rw[zCW h.row];exact hi);refine⟨cf,fun j hj=>?_⟩;have h1:=fe (c+j) (by omega);have h2:=zC5 h.row hi hj;simp only[ent]at h2;rw[h2]at h1;have h3:=iE i j hi hj;simp only[ent]at h3;rw[h3,hl,<-h1];exact congrArg (· %p) (xK (by grind)))
 omega
 omit h in
theorem zOP{N:Nat}(hN:N<=100000):f_E (N:Int)=iW (gl N (ur N)):=by
  have _:=hp;have _:=gG;unfold f_E;rw[uX (body:=zJt (N:Int)) N (ur N) (fun i acc hi ha=>by
    unfold zJt;simp only
    rw[yN hi,zK,yP,bs,uG,Km,if_pos hi,bs,J6,uB,qJ,zX (by simp;omega),bs,zG,bs,cs];rfl) (fun acc=>by
    unfold zJt;simp),bs]
 omit h in
theorem zGA(hr:∀i,i<N->Row p c (A.getD i []))(hl:A.length=N):zWd p A=f_C p (wd N A):=by
  unfold zWd;rw[hl,zOP hp gG (by omega),bs,uX (body:=zNN A (gl N (ur N))) N (fun i=>A.getD i []++ur N i) (fun i acc hi ha=>by
    unfold zNN;simp only
    rw[hl,yN hi,zK,zY [],bs,wZ (by rw[(hr i hi).1];omega),bs,zBV hi,bs,zX (by rw[(hr i hi).1,ur,zU];omega),bs,zX (by simp;omega),bs,zG,bs,cs]) (fun acc=>by
    unfold zNN
    grind),bs]
  grind[wd]
theorem zKu:zH (zK5 (c:Int) W) ([],0)=iW (nul c t W):=by
 have hf:=h.full hp gG;have eW:=h.le;have:=zQ (body:=zK5 (c:Int) W) (r:=nul c t W) (fun i=>(gl (i-t) (fun k=>(W.getD (t+k) []).drop c),(i:Int))) W.length (fun i hi=>by
  have hr:=h.red.row i hi;have h1:=h.red.one i hi;have gJ:=h.red.lt i hi;have py:=zHE (n:=c+N) hr.1 (by omega) gJ (h.red.low i hi) (by grind);unfold zK5;simp only
  rw[yN hi,zK,zY [] hi,bs,py,bs];rcases Jk i t with g|g
  ·have:=h.lo i g
   rw[jb (by omega),zM,zG,bs,cs,show i-t=0 from by omega,show i+1-t=0 from by omega]
  ·have:=h.hi i g hi
   have e:zL (W.getD i []) (c:Int) ((W.getD i []).length:Int)=iW ((W.getD i []).drop c):=by unfold zL;rw[if_pos (by grind),J6,J6,Jo (by rw[Kv];omega)]
   rw[jc,zK,bs,e,bs,wZ (by rw[Kv,hr.1];omega),bs,zX (by rw[xI];simp;omega),bs,zG,bs,cs,show i+1-t=(i-t)+1 from by omega,<-jR,show t+(i-t)=i from by omega]) (by
  unfold zK5;simp only
  rw[qT,zM];rfl)
 grind
end
theorem zQ9{β:Type}{n:Nat}{F:Nat->β}:gl (n+1) F=gl n F++[F n]:=jR.symm
theorem zQA{β:Type}{L:Nat}{F:Nat->List β}:∀{n:Nat},(∀i,i<n->(F i).length=L)->(gl n F).flatten.length=n*L
 |0,_=>by simp[gl]
 |n+1,h=>by
  rw[zQ9,Qb,J7,zQA fun i hi=>h i (by omega),K7]
  grind
theorem zUk{β:Type}{body:List β×Int->Option ((List β×Int)⊕List β)}(n L:Nat)(F:Nat->List β)(a0:List β)(hF:∀i,i<n->(F i).length=L)
  (h:∀i acc,i<n->acc.length=a0.length+i*L->body (acc,(i:Int))=iW (.inl (acc++F i,((i+1:Nat):Int))))(he:∀acc,body (acc,(n:Int))=iW (.inr acc)):
  zH body (a0,0)=iW (a0++(gl n F).flatten):=by
 have:=zQ (body:=body) (r:=a0++(gl n F).flatten) (fun i=>(a0++(gl i F).flatten,(i:Int))) n (fun i hi=>by rw[h i _ hi (by grind[zQA]),zQ9,Qb,Jh];simp) (he _)
 grind
theorem zIR{α:Type}{f:α->α}{a:α}(h:f a=a):∀k,iter k f a=a
 |0=>rfl
 |k+1=>by show iter k f (f a)=a;rw[h];exact zIR h k
theorem zUl{p:Int}{D:Nat}{A:List Mx}:∀(v:Vec)(o:Nat)(B:Mx),o+v.length<=A.length->wM p D A (nw o v) B=img (PM p D) (A.drop o) v B
 | [],o,B,_=>by simp[nw,wM,img]
 |a::v,o,B,h=>by
  simp only[Jd]at h;have e:A.drop o=A.getD o []::A.drop (o+1):=by grind[Gz]
  rw[e];simp only[nw,img];rw[zEm,zII,zUl v (o+1) _ (by omega)]
theorem zDN:∀(k o:Nat),nw o (zeros k)=[]
 |0,_=>rfl
 |k+1,o=>by rw[show zeros (k+1)=0::zeros k from rfl];simp only[nw];rw[zDN k];rfl
section
variable {x:SPr}{m:zB}{D:Nat} (h:Pres x) (hm:zTW x.zA.length m D) (hr:zC3 x m D)
 include hm
 include h hr
theorem zQB:∀(d k:Nat),k+d=x.zA.length->Rel (PM m.Prime D) (idM D) (suf x k) (m.zF.drop k)
 |0,k,hk=>by rw[vN,Gv (by rw[hm.len];omega)];exact rfl
 |d+1,k,mW=>by
  have h6:=h.os.1;have hk:k<x.zA.length:=by omega
  have gn:=hm.len;have e:m.zF.drop k=m.zF.getD k []::m.zF.drop (k+1):=by simp_all
  obtain⟨t1,t2,t3⟩:=h.tl k hk;obtain⟨r1,r2⟩:=hr k hk;have bX:∀v,Exp x.zA v k->wM m.Prime D m.zF (nw 0 v) (idM D)=img (PM m.Prime D) (m.zF.drop (k+1)) (v.drop (k+1)) (idM D):=fun v hv=>by
   have hl:=hv.1.1
   conv=>lhs;rw[zB1 hv hk]
   rw[zEl,zDN,Jv,zW,zUl _ _ _ (by grind),Jc]
  rw[yC hk,e];refine⟨?_,fun q c dd hc hd=>?_,zQB d (k+1) (by omega)⟩
  ·grind[pw,lvl,zII]
  ·rw[Lt]at hc
   have hq:k+1+q<m.zF.length:=by grind
   have du:c=m.zF.getD (k+1+q) []:=by grind
   have bg:dd=((x.zC.getD k []).getD q []).drop (k+1):=by grind[lvl]
   have:=r2 (k+1+q) (by omega) (by omega);rw[show k+1+q-(k+1)=q from by omega]at this;rw[du,bg,this,bX _ (t3 q (by omega))]
end
theorem zAc{p:Int}{c N:Nat}(gG:c+N<=100000){A:Mx}(hr:∀i,i<N->Row p c (A.getD i []))(hl:A.length=N):zVZ A=iW (wd N A):=by
 unfold zVZ;rw[uX (body:=zNH A) N (fun i=>A.getD i []++ur N i) (fun i acc hi ha=>by
  have h1:=(hr i hi).1;have e:wP (J1 (c+N) (0:Int)) 0 ((A.getD i []).take (((J1 (c+N) (0:Int)).length)-0))=A.getD i []++J1 N 0:=by unfold wP;rw[Ja,Jo (l:=A.getD i []) (by omega),Ki,Jv,h1,Lg];simp
  have e2:ixO (A.getD i []++J1 N (0:Int)) ((c+i:Nat):Int)=iW 0:=by rw[uG,Ji (by omega),h1,Km,if_pos (by omega)]
  unfold zNH;simp only
  rw[hl,yN hi,zK,zY [],bs,h1,<-H0,zG,bs,yP,bs,<-H0,zG,bs,e,e2,bs,J6,Qs _ _ (by omega),h1,Ky,uB,qJ,zX (by simp;omega),bs,zG,bs,cs];rfl) (fun acc=>by
  unfold zNH
  grind),bs]
 rfl
theorem zHn{p:Int}(hp:Prime p){n:Nat}(hn:n<=100000){R:Mx}{pv:Nat->Nat}(h:Red p n R pv):f_C p R=iW R/\f_i p R=iW R:=by
 have h7:=hp.pos;have hl:R.length<=n:=h.len_le;obtain⟨R2,pv2,r1,r2,r3,r4⟩:=zAW hp hn (rows:=R) (by omega) h.row;have e:=r3.unique (by omega) h r4
 grind
section
variable {p:Int} (hp:Prime p) {c N:Nat} (gG:c+N<=100000) {A W:Mx}{pv:Nat->Nat}{t:Nat}
 include hp gG
theorem zHo(h:Nul p c N A W pv t):zH (zS2 (c:Int) W) ([],0)=iW (nul c t W):=by
 have h7:=hp.pos;have hf:=h.full hp gG;have eW:=h.le;have:=zQ (body:=zS2 (c:Int) W) (r:=nul c t W) (fun i=>(gl (i-t) (fun k=>(W.getD (t+k) []).drop c),(i:Int))) W.length (fun i hi=>by
  have hr:=h.red.row i hi;have h1:=h.red.one i hi;have e0:zL (W.getD i []) 0 (c:Int)=iW ((W.getD i []).take c):=by unfold zL;rw[if_pos ⟨by omega,by omega,by rw[hr.1];omega⟩,J6,show(0:Int).toNat=0 from rfl,Hq,Uo]
  have fa:((W.getD i []).take c).length=c:=by rw[Kf,hr.1];omega
  have hz:=zFO (v:=(W.getD i []).take c);unfold zS2;simp only
  rw[yN hi,zK,zY [] hi,bs,e0,bs];rcases Jk i t with g|g
  ·have gZ:=h.lo i g
   rcases hz with⟨_,z⟩|⟨z,_⟩
   ·grind
   ·rw[z,bs,zM,zG,bs,cs,show i-t=0 from by omega,show i+1-t=0 from by omega]
  ·have ey:=h.hi i g hi
   have e:zL (W.getD i []) (c:Int) ((W.getD i []).length:Int)=iW ((W.getD i []).drop c):=by unfold zL;rw[if_pos (by grind),J6,J6,Jo (by rw[Kv];omega)]
   rcases hz with⟨z,_⟩|⟨_,z⟩
   ·rw[z,bs,zK,e,bs,zX (by grind),bs,zG,bs,cs,show i+1-t=(i-t)+1 from by omega,<-jR,show t+(i-t)=i from by omega]
   ·refine absurd (fun j hj=>?_) z
    rw[fa]at hj;rw[zDM hj];have:=h.red.low i hi j (by omega);omega) (by
  unfold zS2;simp only
  rw[qT,zM];rfl)
 grind
theorem zGB(hr:∀i,i<N->Row p c (A.getD i []))(hl:A.length=N):∃K pk,zPt p A (c:Int)=iW K/\f_U p A (c:Int)=iW K/\Red p N K pk/\ ∀x,Sp p N K x↔ ∀j,j<c->(S N fun k=>at0 x k*ent A k j)%p=0:=by
 obtain⟨W,pv,t,h1,h2,h3⟩:=Nul.get hp gG hr hl;refine⟨nul c t W,_,?_,?_,h1.nred hp gG,fun x=>h1.nsp hp gG⟩
 ·grind[zPt,zGA,zKu]
 ·unfold f_U
  rw[zAc gG hr hl,bs,h3,bs,zHo hp gG h1,bs,(zHn hp (by omega) (h1.nred hp gG)).2,bs]
end
section
variable {x:SPr} (h:Pres x)
 include h
theorem zUm:∀k,k<=x.zA.length->2*((J8 k).flatMap (R2 x)).length+k*k+k=2*(x.zA.length*k)
 |0,_=>by simp
 |k+1,hk=>by
  have ih:=zUm k (by omega);have t2:=(h.tl k (by omega)).2.1;have e:((J8 (k+1)).flatMap (R2 x)).length=((J8 k).flatMap (R2 x)).length+(x.zC.getD k []).length:=by grind[Lb,R2]
  grind
theorem zRT:2*(xL x).length=x.zA.length*(x.zA.length+1):=by
 have:=zUm h x.zA.length (Je _)
 grind[xL]
end
theorem zNe{α:Type}{F:α->List Int}{D c:Nat}(hc:c<D):∀(L:List α)(a:Nat)(q:α),(∀q∈L,(F q).length=D)->L[a]? =iW q->at0 ((L.map F).flatten) (a*D+c)=at0 (F q) c
 | [],a,q,_,h=>by simp at h
 |y::L,0,q,hF,h=>by grind
 |y::L,a+1,q,hF,h=>by have h1:=hF y (by simp);simp only[Jai]at h;rw[Js,Hi,zFK,K7,if_neg (by omega),show a*D+D+c-(F y).length=a*D+c from by omega];exact zNe hc L a q (by grind) h
theorem zGC{α:Type}{F:α->List Int}{D:Nat}:∀(L:List α),(∀q∈L,(F q).length=D)->((L.map F).flatten).length=L.length*D
 | [],_=>by simp
 |y::L,h=>by
  have:=zGC L fun q hq=>h q (by simp[hq])
  grind
def zKv{α:Type}(N:Nat)(F:Nat->α->List Int)(L:List α):Mx:=gl N fun k=>(L.map (F k)).flatten
section
variable {α:Type}{p:Int}{N D:Nat}{F:Nat->α->List Int} (hF:∀k,k<N-> ∀q,Row p D (F k q))
 include hF
theorem zGD(L:List α):∀k,k<N->Row p (L.length*D) ((zKv N F L).getD k []):=by
 intro k hk;rw[zKv,xR hk];refine zLp.2 ⟨zGC L fun q _=>(hF k hk q).1,fun v hv=>?_⟩;obtain⟨r,h1,h2⟩:=List.mem_flatten.1 hv;obtain⟨q,_,rfl⟩:=Jn.1 h1
 grind[zLp]
end
def zAh(n D:Nat)(v:List Int):Mx:=gl n fun i=>mkv D fun j=>at0 v (i*D+j)
theorem zUn{v:List Int}{D a:Nat}(h:a+D<=v.length):(v.drop a).take D=mkv D fun j=>at0 v (a+j):=by
 have hl:((v.drop a).take D).length=D:=by grind
 rw[wI hl]
 grind[zV]
theorem zGE{v:List Int}{D a:Nat}(h:a+D<=v.length:=by omega):zL v (a:Int) ((a+D:Nat):Int)=iW (mkv D fun j=>at0 v (a+j)):=by unfold zL;rw[if_pos (by omega),J6,J6,Ky,zUn h]
theorem zIS{p:Int}{n D:Nat}{v:List Int}(hv:Row p (n*D) v):VOk n p D (zAh n D v):=by
 refine⟨xI,fun i hi=>?_⟩;rw[zAh,xR hi];refine⟨zU _ _,fun j hj=>?_⟩;rw[zT hj];have:i*D+D<=n*D:=by
  have:=Jw D (show i+1<=n by omega)
  grind
 exact hv.2 _ (by omega)
theorem zQC{p:Int}{n:Nat}{R R':Mx}{pv:Nat->Nat}{v:List Int}:∀i,(∀k,k<i->R.getD k []=R'.getD k [])->cl p n R pv v i=cl p n R' pv v i
 |0,_=>rfl
 |i+1,h=>by rw[cl,cl,zQC i fun k hk=>h k (by omega),h i (by omega)]
theorem Red.sub{p:Int}{n:Nat}{R:Mx}{pv:Nat->Nat}(h:Red p n R pv){t:Nat}(ht:t<=R.length):Red p n (gl t fun i=>R.getD i []) pv:=by
 have hl:(gl t fun i=>R.getD i []).length=t:=xI;have he:∀i j,i<t->ent (gl t fun i=>R.getD i []) i j=ent R i j:=by grind
 refine⟨fun i hi=>?_,fun i hi=>h.lt i (by omega),fun i hi=>?_,fun i hi j hj=>?_,fun i k hi hk gk=>?_,fun i j gR hj=>h.mono i j gR (by omega)⟩
 ·rw[hl]at hi
  rw[xR hi];exact h.row i (by omega)
 ·rw[hl]at hi
  rw[he _ _ hi];exact h.one i (by omega)
 ·rw[hl]at hi
  rw[he _ _ hi];exact h.low i (by omega) j hj
 ·rw[hl]at hi hk
  rw[he _ _ hk];exact h.off i k (by omega) (by omega) gk
theorem zQD{n D i:Nat}(hi:i<n):i*D+D<=n*D:=by
 have:=Jw D (show i+1<=n by omega)
 grind
theorem zEY{n D:Nat}(hD:1<=D){v:List Int}(hl:v.length=n*D)(hs:n*D<=100000:=by omega):zPu v (D:Int)=iW (zAh n D v):=by
 have hn:n<=n*D:=Qq n hD;have:=zQ (body:=zNO v (D:Int)) (r:=zAh n D v) (fun i=>(gl i fun i=>mkv D fun j=>at0 v (i*D+j),((i*D:Nat):Int))) n (fun i hi=>by
  have h1:=zQD (D:=D) hi;unfold zNO;simp only
  rw[jc,zK,<-H0,zG,bs,zGE,bs,zAx (by grind[zU]),bs,zX (by rw[xI];simp;omega),bs,bs,jR,<-K7]) (by
  unfold zNO;simp only
  rw[jb (by omega),zM];rfl)
 grind[zPu]
theorem zC6{n D:Nat}(hD:1<=D)(hD3:D<=1000){v:List Int}(hl:v.length=n*D)(hs:n*D<=100000:=by omega):f_R v (D:Int)=iW (zAh n D v):=by
 have hn:n<=n*D:=Qq n hD;have:=zQ (body:=zWo v (D:Int)) (r:=zAh n D v) (fun i=>(gl i fun i=>mkv D fun j=>at0 v (i*D+j),((i*D:Nat):Int))) n (fun i hi=>by
  have h1:=zQD (D:=D) hi;unfold zWo;simp only
  rw[<-H0,zG,bs,jc,zK,bs,zGE,bs,wZ (by grind[zU]),bs,zX (by rw[xI];simp;omega),bs,bs,jR,<-K7]) (by
  unfold zWo;simp only
  rw[<-H0,zG,bs,jb (by omega),zM];rfl)
 grind[f_R]
section
variable {x:SPr} (h:Pres x) {m:zB}{D:Nat} (hm:MOk x.zA.length m D)
 include h hm
section
variable {vals:Mx} (hv:VOk x.zA.length m.Prime D vals)
 include hv
theorem yFn{q:Rl}:(dfc m D vals q).length=D:=by have _:=h;have _:=hm;have _:=hv;exact zFC
theorem zEZ:f_y x m vals=iW ((xL x).map (dfc m D vals)):=by
 have h6:=h.os.1;have h7:=hm.p.pos;have h3:=hm.d3;have fP:=h.pl;have gy:=h.cl;have hz:=zBD (p:=m.Prime) (D:=D);unfold f_y;rw[hm.d,yP,bs];have e1:=uX (body:=zWq x m vals D) x.zA.length (fun i=>dfc m D vals (r1 x i)) (fun i acc hi ha=>by
  obtain⟨p1,p2⟩:=kN h.os (h.tl i hi).1;have ho:=(h.os.2 i hi).pos;unfold zWq;simp only
  rw[yN hi,zK];rw[uA (S:=Row m.Prime D) (body:=zWp x m vals (acc,(i:Int))) (fun v=>v) (fun v=>stp m D vals v i) (at0 x.zA i) (by omega) (by grind[zCT]) (fun u q hu hq=>by
   unfold zWp;simp only
   rw[yJ hi,bs,jc hq,zK,zC4 hm h6 hv hu hi,bs,zG,bs,cs]) (fun u hu=>by
   unfold zWp;simp only
   rw[yJ hi,bs,jb (by omega),zM]) hz,bs,zG,bs,zY [],bs,zHm hm h6 hv hz p1 p2,bs,<-zOE]
  have e1:f_A m.Prime (ev m D vals (z0 D) (J1 (at0 x.zA i).toNat i)) (m.Prime-1) (ev m D vals (z0 D) (nw 0 (x.zJ.getD i [])))=iW (dfc m D vals (r1 x i)):=by rw[vJ hm.p (zAu hm h6 hv hz _) (zAu hm h6 hv hz _) (by omega) (by omega),zCS];rfl
  grind[zX,zG]) (fun acc=>by
  unfold zWq;simp)
 rw[e1,bs];have dq:=zIM h;have e2:=zQ (body:=zWs x m vals D) (r:=(xL x).map (dfc m D vals)) (fun i=>(((J8 x.zA.length).map (fun i=>dfc m D vals (r1 x i)))++((J8 i).flatMap (R2 x)).map (dfc m D vals),(i:Int))) x.zA.length (fun i hi=>by
  have t2:=(h.tl i hi).2.1;have hfi:=dq i (by omega);unfold zWs;simp only
  rw[yN hi,zK,zG,bs,cs];have gS:=zQ (body:=zWr x m vals D (((J8 x.zA.length).map (fun i=>dfc m D vals (r1 x i)))++((J8 i).flatMap (R2 x)).map (dfc m D vals),(i:Int)))
   (r:=((J8 x.zA.length).map (fun i=>dfc m D vals (r1 x i)))++((J8 (i+1)).flatMap (R2 x)).map (dfc m D vals))
   (fun j=>(((J8 x.zA.length).map (fun i=>dfc m D vals (r1 x i)))++((J8 i).flatMap (R2 x)).map (dfc m D vals)++(J8 j).map (fun j=>dfc m D vals (r2 x i j)),((i+1+j:Nat):Int))) (x.zC.getD i []).length (fun j hj=>by
   obtain⟨c1,c2⟩:=kN h.os ((h.tl i hi).2.2 j hj);have bM:i+1+j<x.zA.length:=by omega
   have s1:=zC4 hm h6 hv hz bM;have s2:=zC4 hm h6 hv (zCT hm h6 hv (v:=z0 D) (w:=i+1+j)) hi;have s3:=zC4 hm h6 hv hz hi;have s4:=zHm hm h6 hv (zCT hm h6 hv (v:=z0 D) (w:=i)) c1 c2;unfold zWr;simp only
   rw[yN bM,zK,s1,bs,s2,bs,s3,bs,zY [],bs,zG,bs,zG,bs,show(((i+1+j:Nat):Int)-(i:Int)-1)=(j:Int)from by omega,zY [] hj,bs,s4,bs,zG,bs];have e2:f_A m.Prime (stp m D vals (stp m D vals (z0 D) (i+1+j)) i) (m.Prime-1) (ev m D vals (stp m D vals (z0 D) i) (nw 0 ((x.zC.getD i []).getD j [])))=iW (dfc m D vals (r2 x i j)):=by
    rw[vJ hm.p (zCT hm h6 hv) (by grind[zAu,zCT]) (by omega) (by omega),zCS];simp only[dfc,r2,ev,Gb,List.foldl_nil]
    grind
   rw[e2,bs,zX (by grind[Jg]),bs,zG,bs,cs,Lb,Lu,Jh];rfl) (by
   unfold zWr;simp only
   rw[show i+1+(x.zC.getD i []).length=x.zA.length from by omega,qT,zM,Lb (n:=i),Gm,Lu,<-Jh];simp[R2])
  simp_all) (by
  unfold zWs;simp only
  rw[qT,zM];simp only[xL,Lu,Q6];rfl)
 simp_all
end
def uv(n D k:Nat):Mx:=zAh n D (tV (n*D) k)
theorem zNf{k:Nat}:VOk x.zA.length m.Prime D (uv x.zA.length D k):=by have _:=h;have h7:=hm.p.pos;exact zIS (zRR h7.1)
theorem zOQ:∀k,k<x.zA.length*D-> ∀q,Row m.Prime D (dfc m D (uv x.zA.length D k) q):=fun k _ q=>by have _:=h;exact uC hm.p
theorem zUo{k:Nat}:zPu (tV (x.zA.length*D) k) (D:Int)=iW (uv x.zA.length D k):=by have h6:=h.os.1;have h3:=hm.d3;have fQ:x.zA.length*D<=14*3:=Jp h6 h3;exact zEY hm.d1 (zU _ _)
theorem yB9{k:Nat}:f_R (tV (x.zA.length*D) k) (D:Int)=iW (uv x.zA.length D k):=by have h6:=h.os.1;have h3:=hm.d3;have fQ:x.zA.length*D<=14*3:=Jp h6 h3;exact zC6 hm.d1 (by omega) (zU _ _)
theorem zIT{vals:Mx}{L:List Rl}:((L.map (dfc m D vals)).flatten).length=L.length*D:=by have _:=h;have _:=hm;grind[zGC,zFC]
theorem zDm:zS3 x m=iW (zKv (x.zA.length*D) (fun k=>dfc m D (uv x.zA.length D k)) (xL x)):=by
 have h6:=h.os.1;have h3:=hm.d3;have fQ:x.zA.length*D<=14*3:=Jp h6 h3;have ft:=zHC h hm (zNf h hm (k:=0));have bE:(xL x).length*D<=300*3:=Jp ft h3;unfold zS3;rw[hm.d,<-Uh,zG,bs];rw[uX (body:=zOb x m ((x.zA.length*D:Nat):Int)) (x.zA.length*D) (fun k=>((xL x).map (dfc m D (uv x.zA.length D k))).flatten) (fun k acc hk ha=>by
  unfold zOb;simp only
  rw[yN hk,zK,zBd hk,bs,hm.d,zUo h hm,bs,zLl h hm (zNf h hm (k:=k)),bs,kO (by simp;omega) (by rw[zIT h hm];omega),bs,zX (by simp;omega),bs,zG,bs,cs]) (fun acc=>by
  unfold zOb;simp),bs]
 rfl
theorem zRU{k N:Nat}:(J1 N (0:Int)).set k 1=tV N k:=by have _:=h;have _:=hm;rw[uB,qJ,tV]
theorem zHp:zYG x m=iW (zKv (x.zA.length*D) (fun k=>dfc m D (uv x.zA.length D k)) (xL x)):=by
 have h6:=h.os.1;have h3:=hm.d3;have fQ:x.zA.length*D<=14*3:=Jp h6 h3;have ft:=zHC h hm (zNf h hm (k:=0));have bE:(xL x).length*D<=300*3:=Jp ft h3;unfold zYG;rw[hm.d,<-Uh,zG,bs];rw[uX (body:=zOa x m ((x.zA.length*D:Nat):Int)) (x.zA.length*D) (fun k=>((xL x).map (dfc m D (uv x.zA.length D k))).flatten) (fun k acc hk ha=>by
  unfold zOa;simp only
  rw[yN hk,zK,yP,bs,uG,Km,if_pos hk,bs,J6,zRU h hm,hm.d,yB9 h hm,bs,zEZ h hm (zNf h hm (k:=k)),bs,zKq (by simp;omega) (by rw[zIT h hm];omega),bs,zX (by simp;omega),bs,zG,bs,cs]) (fun acc=>by
  unfold zOa;simp),bs]
 rfl
end
theorem zUp{v:List Int}{k:Nat}(hl:v.length<=1000000)(hk:k<v.length)(h0:∀j,j<k->at0 v j=0)(h1:at0 v k≠0):zYI v=iW (k:Int):=by
 unfold zYI;have:=zQ (body:=zOd v) (r:=.inr (k:Int)) (fun i=>(i:Int)) k (fun i hi=>by
  unfold zOd zYH;rw[yN,zK,yJ,bs,bs,h0 i hi,bne_self_eq_false,zM,zG,bs,cs]) (by
  unfold zOd zYH;rw[yN hk,zK,yJ hk,bs,bs,kZ h1,zK])
 grind
theorem zKw{b:List Int}{N:Nat}(h:b.length+N<=1000000):yT b (N:Int) (0:Int)=iW (b++J1 N 0):=by unfold yT;rw[if_pos (by omega),J6]
section
variable {p:Int} (hp:Prime p) {c N:Nat} (gG:c+N<=100000) {A W:Mx}{pv:Nat->Nat}{t:Nat} (h:Nul p c N A W pv t)
 include hp gG h
def sy(p:Int)(c N:Nat)(W:Mx)(pv:Nat->Nat)(b:List Int)(t:Nat):List Int:=cl p (c+N) W pv (b++J1 N 0) t
def sx(p:Int)(c N:Nat)(W:Mx)(pv:Nat->Nat)(b:List Int)(t:Nat):List Int:=mkv N fun j=>(0-at0 (sy p c N W pv b t) (c+j))%p
theorem zLs{b:List Int}(hb:Row p c b):Row p (c+N) (b++J1 N 0):=by
 have _:=gG;have _:=h;have h7:=hp.pos;refine⟨by rw[J7,hb.1,Ja],fun j hj=>?_⟩;rw[zFK,hb.1];split
 ·next g=>exact hb.2 j g
 ·next g=>
  have:at0 (J1 N (0:Int)) (j-c)=0:=by simp[at0,J2,show j-c<N by omega]
  omega
theorem zIU{b:List Int}(hb:Row p c b)(t:Nat):Row p (c+N) (sy p c N W pv b t):=zAy hp gG h.red (zLs hp gG h hb) t
theorem zOR{b:List Int}:Row p N (sx p c N W pv b t):=by have _:=gG;have _:=h;have h7:=hp.pos;refine⟨zU _ _,fun j hj=>?_⟩;rw[sx,zT hj];have e1:=Kr (0-at0 (sy p c N W pv b t) (c+j)) (show p≠0 by omega);have e2:=Ke (0-at0 (sy p c N W pv b t) (c+j)) (show 0<p by omega);omega
theorem zIV{y:List Int}(hy:y.length=c+N):zL y 0 (c:Int)=iW (y.take c):=by have _:=hp;have _:=gG;have _:=h;unfold zL;rw[if_pos (by omega),J6,show(0:Int).toNat=0 from rfl,Hq,Uo]
theorem zCX{y:List Int}(hy:y.length=c+N):zL y (c:Int) ((c+N:Nat):Int)=iW (y.drop c):=by have _:=hp;have _:=gG;have _:=h;unfold zL;rw[if_pos (by omega),J6,J6,Jo (by grind)]
theorem zRV:zH (zOc (c:Int) W) ([],0)=iW (gl t fun i=>W.getD i []):=by
 have hf:=h.full hp gG;have eW:=h.le;have:=zQ (body:=zOc (c:Int) W) (r:=gl t fun i=>W.getD i []) (fun i=>(gl (min i t) (fun i=>W.getD i []),(i:Int))) W.length (fun i hi=>by
  have hr:=h.red.row i hi;have h1:=h.red.one i hi;have gJ:=h.red.lt i hi;have py:=zHE (n:=c+N) hr.1 (by omega) gJ (h.red.low i hi) (by simp_all);unfold zOc;simp only
  rw[yN hi,zK,zY [] hi,bs,py,bs];rcases Jk i t with g|g
  ·have:=h.lo i g
   rw[jc,zK,bs,zX (by grind),bs,zG,bs,cs,Hl (by omega),Hl (by omega:i+1<=t),jR]
  ·have:=h.hi i g hi
   rw[jb (by omega),zM,zG,bs,cs,Gg g,Gg (by omega:t<=i+1)]) (by
  unfold zOc
  simp_all)
 grind
theorem zNg{b:List Int}(hb:Row p c b):zH (zS5 (zN.mk p (c:Int) A) W) (b++J1 N 0,0)=iW (sy p c N W pv b t):=by
 have h7:=hp.pos;have hf:=h.full hp gG;have eW:=h.le;have hv:=zLs hp gG h hb;have:=zQ (body:=zS5 (zN.mk p (c:Int) A) W) (r:=sy p c N W pv b t) (fun i=>(sy p c N W pv b (min i t),(i:Int))) W.length (fun i hi=>by
  have hr:=h.red.row i hi;have h1:=h.red.one i hi;have gJ:=h.red.lt i hi;have dp:=zUp (v:=W.getD i []) (k:=pv i) (by rw[hr.1];omega) (by grind) (h.red.low i hi) (by simp_all);unfold zS5;simp only
  rw[yN hi,zK,zY [] hi,bs,dp,bs];rcases Jk i t with g|g
  ·have:=h.lo i g
   have hy:=zIU hp gG h hb i;have ha:=hy.2 (pv i) gJ;rw[jc,zK,Hl (by omega),yJ (by rw[hy.1];exact gJ),bs,zG,bs,qK hp hy hr (by omega) (by omega),bs,zG,bs,cs,Hl (by omega:i+1<=t)];rw[sy,zUi hp gG h.red hv hi];rfl
  ·have:=h.hi i g hi
   rw[jb (by omega),zM,zG,bs,cs,Gg g,Gg (by omega:t<=i+1)]) (by
  unfold zS5
  simp_all)
 rw[Nat.zero_min]at this;exact this
def ng(p:Int)(c N:Nat)(y:List Int)(i:Nat):List Int:=mkv (c+N) fun j=>if c<=j/\j<c+i then(0-at0 y j)%p else at0 y j
theorem zUq{y:List Int}(hy:Row p (c+N) y):zH (zS6 (zN.mk p (c:Int) A) y) (y,0)=iW (ng p c N y N):=by
 have h7:=hp.pos;have ef:=hy.1;have:=zQ (body:=zS6 (zN.mk p (c:Int) A) y) (r:=ng p c N y N) (fun i=>(ng p c N y i,(i:Int))) N (fun i hi=>by
  have hl:(ng p c N y i).length=c+N:=zU _ _;have mw:((ng p c N y i).drop c).length=N:=by grind
  have he:at0 ((ng p c N y i).drop c) i=at0 y (c+i):=by rw[zBF,ng,zT,if_neg (by omega)]
  have hb:=hy.2 (c+i) (by omega);unfold zS6;simp only
  rw[J6,J6,ef,Ky,yN hi,zK,zCX hp gG h hl,bs,yJ,bs,he,zG,bs,zHl hp (by omega) (by omega),bs,bs,yJ,bs,zG,bs,cs,<-H0,J6]
  congr 3
  rw[ng,qJ];refine zV fun j hj=>?_
  by_cases e:j=c+i
  ·simp_all
  omega) (by
  unfold zS6;simp only
  rw[J6,J6,ef,Ky,qT,zM])
 have e:ng p c N y 0=y:=by
  conv=>rhs;rw[wI ef]
  exact zV (by omega)
 grind
theorem zUr{b:List Int}:(ng p c N (sy p c N W pv b t) N).drop c=sx p c N W pv b t:=by
 have _:=hp;have _:=gG;have _:=h;have hl:((ng p c N (sy p c N W pv b t) N).drop c).length=N:=by grind[ng,zU]
 rw[wI hl];refine zV fun j hj=>?_
 rw[zBF,ng,zT,if_pos (by omega)]
theorem zOS{b:List Int}:(mkv N fun j=>(at0 ((sy p c N W pv b t).drop c) j*(p-1))%p)=sx p c N W pv b t:=by
 have _:=hp;have _:=gG;have _:=h;refine zV fun j hj=>?_
 rw[zBF]
 generalize at0 (sy p c N W pv b t) (c+j)=a
 have e:a*(p-1)=(0-a)+p*a:=by grind
 simp_all
theorem zFa(h2:f_C p (wd N A)=iW W){b:List Int}(hb:Row p c b):zS4 p A (c:Int) b=(zJu ((sy p c N W pv b t).take c)).bind fun r13=>cond (!r13) (iW ([],ja)) (iW (cl p N (nul c t W) (fun i=>pv (t+i)-c) (sx p c N W pv b t) (nul c t W).length,iZ)):=by
 have h7:=hp.pos;have hr:=h.row;have hl:=h.len;have hf:=h.full hp gG;have eW:=h.le;have hy:=zIU hp gG h hb t;have hK:=h.nred hp gG;have hKl:(nul c t W).length<=N:=hK.len_le;have hx:=zOR hp gG h (b:=b);have az:cl p (c+N) (gl t fun i=>W.getD i []) pv (b++J1 N 0) (gl t fun i=>W.getD i []).length=sy p c N W pv b t:=by grind[sy,zQC]
 have am:zPt p A (c:Int)=iW (nul c t W):=by grind[zPt,zGA,zKu]
 have mw:Row p N ((sy p c N W pv b t).drop c):=by refine⟨by rw[Kv,hy.1];omega,fun j hj=>?_⟩;rw[zBF];exact hy.2 _ (by omega)
 have hgl:(gl t fun i=>W.getD i []).length=t:=xI;unfold zS4;rw[zGA hp gG hr hl,h2,bs,wZ (by rw[hb.1];omega),bs,hl,zKw (by rw[hb.1];omega),bs,zRV hp gG h,bs,zBE hp gG (h.red.sub eW) (zLs hp gG h hb) (by omega),bs,az,zIV hp gG h hy.1,bs,zG,bs,hy.1,zCX hp gG h hy.1,bs,zIN hp (by omega) mw (by omega) (by omega),bs,am,bs,zOS hp gG h,zBE hp (by omega) hK hx (by omega),bs]
 omit h in
theorem zOT(hr:∀i,i<N->Row p c (A.getD i []))(hl:A.length=N){b:List Int}(hb:Row p c b):∃r ok,zS4 p A (c:Int) b=iW (r,ok)/\f_N (zN.mk p (c:Int) A) b=iW (r,ok)/\r.length<=N:=by
  have h7:=hp.pos;obtain⟨W,pv,t,h,h2,h3⟩:=Nul.get hp gG hr hl;have hf:=h.full hp gG;have eW:=h.le;have hy:=zIU hp gG h hb t;have hK:=h.nred hp gG;have hKl:(nul c t W).length<=N:=hK.len_le;have hx:=zOR hp gG h (b:=b);have gy:=zAy hp (by omega) hK hx (nul c t W).length;have iw:f_U p A (c:Int)=iW (nul c t W):=by unfold f_U;rw[zAc gG hr hl,bs,h3,bs,zHo hp gG h,bs,(zHn hp (by omega) hK).2,bs]
  have fa:((sy p c N W pv b t).take c).length=c:=by rw[Kf,hy.1];omega
  have es:=zFa hp gG h h2 hb;have ei:f_N (zN.mk p (c:Int) A) b=(f_V ((sy p c N W pv b t).take c)).bind fun r13=>cond (!r13) (iW ([],ja)) (iW (cl p N (nul c t W) (fun i=>pv (t+i)-c) (sx p c N W pv b t) (nul c t W).length,iZ)):=by
    unfold f_N yCn;simp only
    rw[zAx (by rw[hb.1];omega),bs,hl,zKw (by rw[hb.1];omega),bs,zAc gG hr hl,bs,h3,bs,zNg hp gG h hb,bs,zIV hp gG h hy.1,bs,hy.1,zCX hp gG h hy.1,bs,zUq hp gG h hy,bs,iw,bs,bs,zCX hp gG h (y:=ng p c N (sy p c N W pv b t) N) (zU _ _),bs,zUr hp gG h,zDL hp (by omega) hK hx (by omega),bs]
  rw[es,ei];rcases(zAv (v:=(sy p c N W pv b t).take c)).both (zFO)with⟨z1,z2,_⟩|⟨z1,z2,_⟩
  · rw[z1,z2,bs,Jq,zM]
    exact⟨_,_,rfl,rfl,by rw[gy.1];omega⟩
  simp_all
end
theorem zIW{N c:Nat}{f:Nat->Int}:(mkv N f).drop c=mkv (N-c) fun i=>f (c+i):=by
 have hl:((mkv N f).drop c).length=N-c:=by rw[Kv,zU]
 grind[wI,zV,zBF,zT]
theorem zAY{n j:Nat}:xE n j=mkv n fun i=>if i=j then 1 else 0:=by rw[xE,show zeros n=J1 n (0:Int)from rfl,uB,qJ]
theorem vG{n i:Nat}:at0 (zeros n) i=0:=by
 rcases Jk i n with g|g
 ·simp[zeros,at0,J2,g]
 ·simp[zeros,at0,J2,g]
theorem zEA.p{x:SPr}(h:zEA x)(hl:x.zA.length<=14):Pres x:=⟨⟨hl,h.os.2⟩,h.pl,h.cl,h.tl⟩
structure ExB (n D:Nat) (x:SPr) (m:zB) (T:Mx):Prop where
 hn:n<=6
 o:x.zA.length=n
 p:x.zJ.length=n
 c:x.zC.length=n
 cl:∀i,i<n->(x.zC.getD i []).length=n-1-i
 t:T.length=base n n
 m:zTW n m D
theorem zLq.b{n D:Nat}{x:SPr}{m:zB}{T:Mx}(h:zLq n D x m T)(hm:MOk n m D):ExB n D x m T:=⟨h.hn,h.o,h.p,h.c,h.cl,h.t,hm.b⟩
section
variable {D:Nat}{x:SPr}{m:zB}{T:Mx} (h:Pres x) (hE:ExB x.zA.length D x m T) (hT:∀i,i<T.length->Row m.Prime D (T.getD i []))
 include h hE hT
abbrev exx(D:Nat)(x:SPr)(m:zB)(T:Mx):SPr:=ext x.zA.length D x m T
theorem xW:(exx D x m T).zA.length=x.zA.length+D:=by have _:=h;have _:=hE;have _:=hT;simp[exx,ext]
theorem tI{i:Nat}(hi:i<x.zA.length):at0 (exx D x m T).zA i=at0 x.zA i:=by
 have _:=h;have _:=hE;have _:=hT;show at0 (x.zA++J1 D m.Prime) i=_
 grind
theorem zCY{i:Nat}(hi:x.zA.length<=i)(h2:i<x.zA.length+D):at0 (exx D x m T).zA i=m.Prime:=by
 have _:=h;have _:=hE;have _:=hT;show at0 (x.zA++J1 D m.Prime) i=_
 grind
theorem zOU{v t:List Int}{i:Nat}(hv:v.length=x.zA.length)(hr:∀j,j<x.zA.length->0<=at0 v j/\at0 v j<=at0 x.zA j-1)(hz:∀j,j<=i->j<x.zA.length->at0 v j=0)(ht:Row m.Prime D t)(hi:i<x.zA.length):Exp (exx D x m T).zA (v++t) i:=by
 have hl:=xW h hE hT;refine⟨⟨by rw[J7,hv,ht.1,hl],fun j hj=>?_⟩,fun j hj=>?_⟩
 ·rw[J7,hv,ht.1]at hj
  rw[zFK,hv];split
  ·grind[tI]
  ·next g=>rw[zCY h hE hT (by omega) hj];exact ht.2 _ (by omega)
 grind
theorem zNh(i:Nat)(hi:i<base x.zA.length x.zA.length):Row m.Prime D (T.getD i []):=by have _:=h;exact hT i (by rw[hE.t];exact hi)
theorem zEq:zEA (exx D x m T):=by
 have hn:=hE.hn;have h3:=hE.m.d3;have h7:=hE.m.p.pos;have hl:=xW h hE hT;have hb:=xY x.zA.length (by omega);refine⟨⟨trivial,fun i hi=>?_⟩,by rw[hl];exact xI,by rw[hl];exact xI,fun i hi=>?_⟩
 ·rw[hl]at hi
  rcases Jk i x.zA.length with g|g
  ·rw[tI h hE hT g];exact h.os.2 i g
  ·rw[zCY h hE hT g hi];exact hE.m.p
 ·rw[hl]at hi
  have hP:(exx D x m T).zJ.getD i []=exP x.zA.length D x T i:=xR hi;have hC:(exx D x m T).zC.getD i []=exC x.zA.length D x m T i:=by
   show(gl (x.zA.length+D) (exC x.zA.length D x m T)).getD i []=_
   grind
  refine⟨?_,?_,?_⟩
  ·rw[hP,exP]
   rcases Jk i x.zA.length with g|g
   ·rw[if_pos g]
    obtain⟨t1,_,_⟩:=h.tl i g;exact zOU h hE hT t1.1.1 (fun j hj=>t1.1.2 j (by rw[t1.1.1];exact hj)) (fun j hj _=>t1.2 j hj) (by grind[zNh]) g
   ·rw[if_neg (by omega)]
    have hz:∀j,at0 (J1 (x.zA.length+D) (0:Int)) j=0:=fun j=>vG
    refine⟨⟨by grind,fun j hj=>?_⟩,fun j _=>hz j⟩;rw[Ja]at hj;rw[hz];rcases Jk j x.zA.length with g2|g2
    ·rw[tI h hE hT g2];have:=(h.os.2 j g2).pos;omega
    grind[zCY]
  ·grind[exC,unC]
  ·rw[hC,exC]
   split
   ·next g=>
    intro j hj;rw[xI]at hj;rw[xR hj,exF];split
    ·next g2=>
     have gy:=hE.cl i g;have cC:=zBW x.zA.length (by omega) i g;obtain⟨_,_,t3⟩:=h.tl i g;have t:=t3 j (by omega);exact zOU h hE hT t.1.1 (fun q hq=>t.1.2 q (by rw[t.1.1];exact hq)) (fun q hq _=>t.2 q hq) (by grind[zNh]) g
    ·next g2=>
     have hz:∀j,at0 (J1 x.zA.length (0:Int)) j=0:=fun j=>vG
     refine zOU h hE hT (by simp) (fun q hq=>?_) (fun q _ _=>hz q) ((hE.m.mat i g).2 _ (by omega)) g;rw[hz];have:=(h.os.2 q hq).pos;omega
   ·next g=>
    intro j hj;rw[unC,xI]at hj;rw[unC,xR hj];refine⟨⟨by rw[hl];exact zU _ _,fun q hq=>?_⟩,fun q hq=>?_⟩
    ·rw[tV,zU]at hq
     rw[tV,zT hq];rcases Jk q x.zA.length with g2|g2
     ·rw[tI h hE hT g2];have:=(h.os.2 q g2).pos;omega
     grind[zCY]
    ·rw[tV,zT,if_neg (by omega)]
theorem zC7{k:Nat}(hk:k<x.zA.length):(lvl (exx D x m T) k).o=at0 x.zA k:=tI h hE hT hk
theorem zIX{k:Nat}(hk:k<x.zA.length):(lvl (exx D x m T) k).w=(lvl x k).w++T.getD k []:=by have t1:=(h.tl k hk).1.1.1;have _:=hE;have _:=hT;show((exx D x m T).zJ.getD k []).drop (k+1)=_;have hP:(exx D x m T).zJ.getD k []=exP x.zA.length D x T k:=xR;rw[hP,exP,if_pos hk,Kq (by omega)];rfl
def eC1(x:SPr)(T:Mx)(k:Nat):List Vec:=gl (x.zA.length-1-k) fun j=>(lvl x k).cs.getD j []++T.getD (base x.zA.length k+j) []
def eC2(x:SPr)(m:zB)(D k:Nat):List Vec:=((gl D fun j=>(m.zF.getD k []).getD j []).map fun r=>zeros (x.zA.length-1-k)++r)
theorem zCZ{k:Nat}(hk:k<x.zA.length):(lvl (exx D x m T) k).cs=eC1 x T k++eC2 x m D k:=by
 have gy:=hE.cl k hk;have _:=hT;show((exx D x m T).zC.getD k []).map (·.drop (k+1))=_;have hC:(exx D x m T).zC.getD k []=exC x.zA.length D x m T k:=by
  show(gl (x.zA.length+D) (exC x.zA.length D x m T)).getD k []=_
  grind
 rw[hC,exC,if_pos hk];apply Kw;intro j
 by_cases hj:j<x.zA.length+D-1-k
 ·have e1:((gl (x.zA.length+D-1-k) (exF x.zA.length x m T k)).map (·.drop (k+1)))[j]? =iW ((exF x.zA.length x m T k j).drop (k+1)):=by grind
  rw[e1,exF]
  by_cases g:j<x.zA.length-1-k
  ·rw[if_pos g,K0 (by grind[eC1])]
   have t:=(h.tl k hk).2.2 j (by omega);rw[Kq (by have:=t.1.1;omega)];have e2:(eC1 x T k)[j]? =iW ((lvl x k).cs.getD j []++T.getD (base x.zA.length k+j) []):=by simp[eC1,gl,g]
   rw[e2]
   congr 2
   simp only[lvl,J2,Jx]
   grind
  ·rw[if_neg g,Ji (by grind[eC1]),eC1,xI]
   have e2:(eC2 x m D k)[j-(x.zA.length-1-k)]? =iW (zeros (x.zA.length-1-k)++(m.zF.getD k []).getD (j-(x.zA.length-1-k)) []):=by simp[eC2,gl,show j-(x.zA.length-1-k)<D by omega]
   rw[e2,Kq (by simp;omega),Lg,show x.zA.length-(k+1)=x.zA.length-1-k from by omega];rfl
 ·rw[La (by grind),La (by simp[eC1,eC2,gl];omega)]
end
def tlv(p:Int):Nat->Pcp
 |0=>[]
 |d+1=>⟨p,zeros d,wB d⟩::tlv p d
theorem zHG{p:Int}:∀d,(tlv p d).length=d
 |0=>rfl
 |d+1=>by simp[tlv,zHG d]
theorem zEF{p:Int}:∀(d:Nat)(v:Vec),V (tlv p d) v↔Row p d v
 |0,v=>by
  constructor
  ·intro h
   obtain rfl:v=[]:=h;exact⟨rfl,fun i hi=>by omega⟩
  ·intro h
   have:=K6 h.1;subst this;exact rfl
 |d+1,v=>by
  cases v with
  |nil=>exact⟨fun h=>h.elim,fun h=>by have:=h.1;grind⟩
  |cons a v=>
   show((0<=a/\a<p)/\V (tlv p d) v)↔_;rw[zEF d v];constructor
   ·rintro⟨⟨h0,h1⟩,h2⟩
    refine⟨by simp[h2.1],fun i hi=>?_⟩;cases i with
    |zero=>grind
    |succ i=>have:=h2.2 i (by omega);grind
   ·intro h
    have h0:=h.2 0 (by omega);simp only[at0,Gd]at h0;refine⟨⟨h0.1,by omega⟩,by have:=h.1;grind,fun i hi=>?_⟩;have:=h.2 (i+1) (by omega)
    grind
abbrev adv(p:Int)(D:Nat)(u v:List Int):List Int:=mkv D fun j=>(at0 u j+at0 v j)%p
theorem sU{p:Int}{D:Nat}{u v:List Int}(hp:0<p:=by omega):Row p D (adv p D u v):=by refine⟨zU _ _,fun j hj=>?_⟩;rw[zT hj];have e1:=Kr (at0 u j+at0 v j) (show p≠0 by omega);have e2:=Ke (at0 u j+at0 v j) hp;omega
theorem zIY{p:Int}{D:Nat}{c:List Int}(hp:0<p):∀(k:Nat)(acc:List Int),Row p D acc->iter k (fun w=>adv p D w c) acc=mkv D fun j=>(at0 acc j+(k:Int)*at0 c j)%p
 |0,acc,ha=>by
  show acc=_
  conv=>lhs;rw[wI ha.1]
  refine zV fun j hj=>?_
  have:=ha.2 j hj;rw[Int.natCast_zero,U0,Lv,K5 this.1 (by omega)]
 |k+1,acc,ha=>by
  show iter k (fun w=>adv p D w c) (adv p D acc c)=_;rw[zIY hp k _ (sU hp)];refine zV fun j hj=>?_
  grind[zT,Kd,Jy]
theorem yBA{f:Nat->Int}{n:Nat}:S (n+1) f=f 0+S n fun i=>f (i+1):=by
 rw[Nat.add_comm,zFL 1 n];simp only[S]
 grind
theorem zHH{p:Int}{D:Nat}(hp:0<p):∀(cs:List Vec)(v acc:Vec),v.length=cs.length->(∀i,i<v.length->0<=at0 v i)->Row p D acc->img (adv p D) cs v acc=mkv D fun j=>(at0 acc j+S cs.length fun k=>at0 v k*ent cs k j)%p
 | [],v,acc,hl,_,ha=>by
  show acc=_
  conv=>lhs;rw[wI ha.1]
  refine zV fun j hj=>?_
  have:=ha.2 j hj;simp only[K9,S];rw[Lv,K5 this.1 (by omega)]
 |c::cs,[],acc,hl,_,_=>by simp at hl
 |c::cs,a::v,acc,hl,hv,ha=>by
  have h0:=hv 0 (by simp);simp only[at0,Gd]at h0;have gX:Row p D (iter a.toNat (fun w=>adv p D w c) acc):=vS (S:=Row p D) (fun _ _=>sU hp) _ ha;show img (adv p D) cs v (iter a.toNat (fun w=>adv p D w c) acc)=_;rw[zHH hp cs v _ (by grind) (fun i hi=>by have:=hv (i+1) (by grind);grind) gX,zIY hp _ _ ha];refine zV fun j hj=>?_
  rw[zT hj,Jd,yBA,Kd,Jy,<-Kd,Ql h0,Int.add_assoc];rfl
theorem zEr{α:Type}{S:α->Prop}{m m':α->α->α}(hm:∀a b,S a->S b->m a b=m' a b)(hc:∀a b,S a->S b->S (m' a b)):∀(cs:List α)(v:Vec)(acc:α),(∀c∈cs,S c)->S acc->img m cs v acc=img m' cs v acc
 | [],_,_,_,_=>by simp[img]
 |c::cs,[],_,_,_=>by simp[img]
 |c::cs,a::v,acc,h1,h2=>by
  have pZ:=h1 c (by simp);have e:∀k acc,S acc->iter k (fun w=>m w c) acc=iter k (fun w=>m' w c) acc/\S (iter k (fun w=>m' w c) acc):=by
   intro k
   induction k with
   |zero=>intro acc ha;exact⟨rfl,ha⟩
   |succ k ih=>
    intro acc ha;show iter k (fun w=>m w c) (m acc c)=iter k (fun w=>m' w c) (m' acc c)/\_;rw[hm acc c ha pZ];exact ih _ (hc _ _ ha pZ)
  show img m cs v (iter a.toNat (fun w=>m w c) acc)=img m' cs v (iter a.toNat (fun w=>m' w c) acc);rw[(e _ _ h2).1];exact zEr hm hc cs v _ (by grind) (e _ _ h2).2
theorem zEs{d k j:Nat}(hk:k<d)(hj:j<d):ent (wB d) k j=if j=k then 1 else 0:=by
 have e:(wB d).getD k []=xE d k:=by grind[wB]
 rw[ent,e,zAY,zT hj]
theorem xD{p:Int}{D:Nat}(hp:0<p:=by omega):Row p D (zeros D):=zBD hp
theorem jS{p:Int}(hp:2<=p):∀(d:Nat)(u v:Vec),Row p d u->Row p d v->mul (tlv p d) u v=adv p d u v
 |0,u,v,hu,_=>by rfl
 |d+1,u,v,hu,hv=>by
  have ih:=jS hp d;have bA:=(zEF (d+1) u).2 hu;have mf:=(zEF (d+1) v).2 hv;cases u with
  |nil=>exact bA.elim
  |cons a u=>
   cases v with
   |nil=>exact mf.elim
   |cons b v=>
    obtain⟨⟨a0,a1⟩,cP⟩:=bA;obtain⟨⟨b0,b1⟩,pP⟩:=mf;have hu3:=(zEF d u).1 cP;have me:=(zEF d v).1 pP;change a<p at a1;change b<p at b1;have eD:∀w,Row p d w->sig (tlv p d) ⟨p,zeros d,wB d⟩ w=w:=fun w hw=>by
     have dL:∀c∈wB d,Row p d c:=fun c hc=>by obtain⟨k,hk,rfl⟩:=Jn.1 hc;rw[zAY];exact⟨zU _ _,by grind[zT]⟩
     unfold sig;rw[zHG,zEr (S:=Row p d) (m':=adv p d) (by omega) (fun _ _ _ _=>sU) (wB d) w _ dL (xD),zHH (by omega) (wB d) w _ (by rw[hw.1];simp[wB]) (fun i hi=>(hw.2 i (by rw[<-hw.1];exact hi)).1) (xD)]
     conv=>rhs;rw[wI hw.1]
     refine zV fun j hj=>?_
     have eQ:(wB d).length=d:=by simp[wB]
     have:=hw.2 j hj;rw[eQ,vG,L4,zBo (k:=j) hj (fun k hk gk=>by rw[zEs hk hj,if_neg (Ne.symm gk),Lp]),zEs hj hj,if_pos rfl,H2,K5 this.1 (by omega)]
    have ew:∀k,iter k (sig (tlv p d) ⟨p,zeros d,wB d⟩) u=u:=by grind[zIR]
    show mul (⟨p,zeros d,wB d⟩::tlv p d) (a::u) (b::v)=_;rw[yQ,ew,ih u v hu3 me];have hz:adv p d (zeros d) (adv p d u v)=adv p d u v:=by
     refine zV fun j hj=>?_
     rw[zT hj,vG,L4,Jy]
    rw[ih _ _ (xD) (sU),hz];have aJ:adv p (d+1) (a::u) (b::v)=(a+b)%p::adv p d u v:=by
     simp only[adv,mkv,Qg,Js,Q6]
     congr 1
    rw[aJ];split
    ·next g=>
     have g:a+b>=p:=g;have e:(a+b)%p=a+b-p:=by rw[show a+b=(a+b-p)+p from by omega,Um,K5 (by omega) (by omega)];omega
     grind
    ·next g=>
     have g:¬a+b>=p:=g
     congr 1
     exact(K5 (by omega) (by omega)).symm
theorem zQE{α:Type}{m:α->α->α}:∀(c1:List α)(y:Vec)(c2:List α)(u:Vec)(acc:α),c1.length=y.length->img m (c1++c2) (y++u) acc=img m c2 u (img m c1 y acc)
 | [],[],_,_,_,_=>by rfl
 | [],_::_,_,_,_,h=>by simp at h
 |_::_,[],_,_,_,h=>by simp at h
 |c::c1,a::y,c2,u,acc,h=>zQE c1 y c2 u _ (by grind)
theorem zFP{α β:Type}{S:α->Prop}{m:α->α->α}{n:β->β->β}(φ:α->β)(hS:∀a b,S a->S b->S (m a b))(hm:∀a b,S a->S b->φ (m a b)=n (φ a) (φ b)):∀(cs:List α)(v:Vec)(a:α),(∀c∈cs,S c)->S a->φ (img m cs v a)=img n (cs.map φ) v (φ a)
 | [],v,a,_,_=>by rfl
 |_::_,[],_,_,_=>rfl
 |c::cs,t::v,a,hc,ha=>by
  have pZ:=hc c (by simp);have e:∀k a,S a->φ (iter k (fun w=>m w c) a)=iter k (fun w=>n w (φ c)) (φ a)/\S (iter k (fun w=>m w c) a):=by
   intro k
   induction k with
   |zero=>intro a ha;exact⟨rfl,ha⟩
   |succ k ih=>
    intro a ha;have:=ih (m a c) (hS _ _ ha pZ);rw[hm a c ha pZ]at this;exact this
  show φ (img m cs v (iter t.toNat (fun w=>m w c) a))=img n (cs.map φ) v (iter t.toNat (fun w=>n w (φ c)) (φ a));rw[<-(e _ a ha).1];exact zFP φ hS hm cs v _ (by grind) (e _ a ha).2
theorem jN{p:Int}{D:Nat}{r:List Int}(hr:Row p D r):xG p D r (idM D)=r:=by
 conv=>rhs;rw[wI hr.1]
 refine zV fun j hj=>?_
 have:=hr.2 j hj;have e:∀l,l<D->ent (idM D) l j=if j=l then 1 else 0:=fun l hl=>by rw[ent,zEk hl,zT hj]
 rw[zBo (k:=j) hj (by grind),e j hj,if_pos rfl,H2,tM this]
theorem zEt{p:Int}{D:Nat}{r:List Int}{A B:Mx}(hA:A.length=D):xG p D (xG p D r A) B=xG p D r (PM p D A B):=by
 refine zV fun j hj=>?_
 have e1:S D (fun l=>at0 (xG p D r A) l*ent B l j)%p=S D (fun l=>S D (fun i=>at0 r i*ent A i l)*ent B l j)%p:=zAV (by grind[xG,zT,Ju,Jy]);have e2:S D (fun l=>at0 r l*ent (PM p D A B) l j)%p=S D (fun i=>at0 r i*S D (fun l=>ent A i l*ent B l j))%p:=zAV (by grind[zOC,Ju,Jy]);rw[e1,e2]
 congr 1
 have e3:S D (fun l=>S D (fun i=>at0 r i*ent A i l)*ent B l j)=S D (fun l=>S D (fun i=>at0 r i*ent A i l*ent B l j)):=xK (by grind[zMN]);rw[e3,zIF];refine xK fun i _=>?_
 rw[<-zDG];exact xK (by grind)
theorem wW{p:Int}{D:Nat}{v:List Int}(hv:Row p D v):adv p D (zeros D) v=v:=by
 conv=>rhs;rw[wI hv.1]
 refine zV fun j hj=>?_
 rw[vG,L4,tM (hv.2 j hj)]
theorem zAz{p:Int}{D:Nat}{v:List Int}(hv:Row p D v):adv p D v (zeros D)=v:=by
 conv=>rhs;rw[wI hv.1]
 refine zV fun j hj=>?_
 rw[vG,Lv,tM (hv.2 j hj)]
theorem zUs{p:Int}{D:Nat}{acc v:List Int}{A:Mx}(hl:A.length=D):(mkv D fun j=>(at0 acc j+S A.length fun k=>at0 v k*ent A k j)%p)=adv p D acc (xG p D v A):=by grind[zV,xG,zT,Jal]
theorem uD{p:Int}{D:Nat}{u v:List Int}:adv p D u v=adv p D v u:=by grind
theorem zQF{p:Int}{D:Nat}{u v w:List Int}(hv:Row p D v)(hw:Row p D w):adv p D u v=adv p D u w↔v=w:=by
 constructor
 ·intro h
  rw[wI hv.1,wI hw.1];refine zV fun j hj=>?_
  have e:at0 (adv p D u v) j=at0 (adv p D u w) j:=by rw[h]
  rw[adv,adv,zT hj,zT hj]at e;have h1:=hv.2 j hj;have h2:=hw.2 j hj;have h3:=Int.emod_emod_of_dvd (at0 u j+at0 v j) (Int.dvd_refl p);have e4:(at0 u j+at0 v j-at0 u j)%p=(at0 u j+at0 w j-at0 u j)%p:=by rw[Uq,e,<-Uq]
  rw[show at0 u j+at0 v j-at0 u j=at0 v j from by omega,show at0 u j+at0 w j-at0 u j=at0 w j from by omega,tM h1,tM h2]at e4;exact e4
 grind
section
variable {D:Nat}{x:SPr}{m:zB}{T:Mx} (h:Pres x) (hE:ExB x.zA.length D x m T) (hT:∀i,i<T.length->Row m.Prime D (T.getD i []))
 include h hE hT
theorem zBx:∀(d k:Nat),x.zA.length<=k->k+d=x.zA.length+D->suf (exx D x m T) k=tlv m.Prime d
 |0,k,hk,hd=>by rw[vN (by grind[xW])];rfl
 |d+1,k,hk,hd=>by
  have hl:=xW h hE hT;rw[yC,zBx d (k+1) (by omega) (by omega),tlv]
  congr 1
  have hP:(exx D x m T).zJ.getD k []=exP x.zA.length D x T k:=xR;have hC:(exx D x m T).zC.getD k []=exC x.zA.length D x m T k:=by
   show(gl (x.zA.length+D) (exC x.zA.length D x m T)).getD k []=_
   grind
  unfold lvl;rw[hP,hC,exP,exC,if_neg (by omega),if_neg (by omega),zCY h hE hT hk (by omega),Lg,show x.zA.length+D-(k+1)=d from by omega]
  congr 1
  rw[unC,wB,gl,Q6,show x.zA.length+D-1-k=d from by omega];refine Uc fun j hj=>?_
  have hj:=Ll.1 hj;show(tV (x.zA.length+D) (k+1+j)).drop (k+1)=xE d j;rw[tV,zIW,zAY,show x.zA.length+D-(k+1)=d from by omega];simp
theorem sV:∀(d k:Nat),k+d=x.zA.length-> ∀v,V (suf (exx D x m T) k) v↔ ∃y u,v=y++u/\V (suf x k) y/\Row m.Prime D u
 |0,k,hk,v=>by
  rw[zBx h hE hT D k (by omega) (by omega),zEF,vN (x:=x) (k:=k)];constructor
  ·intro g;exact⟨[],v,rfl,rfl,g⟩
  ·rintro⟨y,u,rfl,hy,hu⟩
   obtain rfl:y=[]:=hy;exact hu
 |d+1,k,hk,v=>by
  have hl:=xW h hE hT;have ih:=sV d (k+1) (by omega);rw[yC (x:=exx D x m T),yC (x:=x)];cases v with
  |nil=>
   refine⟨fun g=>g.elim,?_⟩
   rintro⟨y,u,e,hy,hu⟩
   cases y with
   |nil=>exact hy.elim
   |cons a y=>simp at e
  |cons a v=>
   show((0<=a/\a<(lvl (exx D x m T) k).o)/\V (suf (exx D x m T) (k+1)) v)↔_;rw[zC7 h hE hT (by omega),ih v];constructor
   ·rintro⟨g,y,u,rfl,hy,hu⟩
    exact⟨a::y,u,rfl,⟨g,hy⟩,hu⟩
   ·rintro⟨y,u,e,hy,hu⟩
    cases y with
    |nil=>exact hy.elim
    |cons b y=>
     simp only[Kc,Ja8.injEq]at e;obtain⟨rfl,rfl⟩:=e;exact⟨hy.1,y,u,rfl,hy.2,hu⟩
theorem zFQ:∀(d k:Nat),k+d=x.zA.length-> ∀y u r,V (suf x k) y->Row m.Prime D u->Row m.Prime D r->mul (suf (exx D x m T) k) (y++u) (zeros d++r)=y++adv m.Prime D u r
 |0,k,hk,y,u,r,hy,hu,hr=>by have hp:=hE.m.p.pos;rw[vN (x:=x) (k:=k)]at hy;obtain rfl:y=[]:=hy;rw[zBx h hE hT D k (by omega) (by omega)];exact jS (by omega) D u r hu hr
 |d+1,k,hk,y,u,r,hy,hu,hr=>by
  have hl:=xW h hE hT;rw[yC (x:=x)]at hy;cases y with
  |nil=>exact hy.elim
  |cons a y=>
   obtain⟨⟨a0,a1⟩,hy⟩:=hy;change a<at0 x.zA k at a1;rw[yC (x:=exx D x m T)];show mul _ (a::(y++u)) (0::(zeros d++r))=_;rw[yQ,zC7 h hE hT (by omega),if_neg (by omega)];show(a+0)::mul _ (y++u) (zeros d++r)=_;rw[zFQ d (k+1) (by omega) y u r hy hu hr,Lv];rfl
theorem uH{k:Nat}(hk:k<=x.zA.length+D):Pc.Ok (suf (exx D x m T) k):=(zEq h hE hT).okAt (by grind[xW])
theorem zOV{d k:Nat}(hk:k+d=x.zA.length):∀(rs:List Vec)(v:Vec)(y u:Vec),(∀r∈rs,Row m.Prime D r)->V (suf x k) y->Row m.Prime D u->img (mul (suf (exx D x m T) k)) (rs.map fun r=>zeros d++r) v (y++u)=y++img (adv m.Prime D) rs v u
 | [],v,y,u,_,_,_=>by rfl
 |_::_,[],_,_,_,_,_=>rfl
 |c::rs,t::v,y,u,hr,hy,hu=>by
  have hp:=hE.m.p.pos;have hc:=hr c (by simp);have e:∀q u,Row m.Prime D u->iter q (fun w=>mul (suf (exx D x m T) k) w (zeros d++c)) (y++u)=y++iter q (fun w=>adv m.Prime D w c) u:=by
   intro q
   induction q with
   |zero=>intro u _;rfl
   |succ q ih=>
    intro u hu;show iter q _ (mul _ (y++u) (zeros d++c))=_;rw[zFQ h hE hT d k hk y u c hy hu hc,ih _ (sU)];rfl
  show img _ (rs.map fun r=>zeros d++r) v (iter t.toNat (fun w=>mul (suf (exx D x m T) k) w (zeros d++c)) (y++u))=_;rw[e _ _ hu,zOV hk rs v y _ (by grind) hy (vS (S:=Row m.Prime D) (fun _ _=>sU) _ hu)];rfl
theorem yBB{k:Nat}(hk:k<x.zA.length):(gl D fun j=>(m.zF.getD k []).getD j [])=m.zF.getD k []:=by
 have _:=h;have _:=hT;have hl:=(hE.m.mat k hk).1;apply Kw
 grind
def sgG(D:Nat)(x:SPr)(m:zB)(T:Mx)(k:Nat)(y:Vec):Vec:=img (mul (suf (exx D x m T) (k+1))) (eC1 x T k) y (zeros (suf (exx D x m T) (k+1)).length)
theorem jT{k:Nat}:(eC1 x T k).length=x.zA.length-1-k:=by have _:=h;have _:=hE;have _:=hT;grind[eC1]
theorem zQG{k:Nat}(hk:k<x.zA.length):∀c∈eC1 x T k,V (suf (exx D x m T) (k+1)) c:=by intro c hc;have ok:=uH h hE hT (k:=k) (by omega);rw[yC (by grind[xW])]at ok;exact ok.2.2.2.1 c (by grind[zCZ])
theorem zCg{k:Nat}(hk:k<=x.zA.length):zeros (suf (exx D x m T) k).length=zeros (x.zA.length-k)++zeros D:=by grind[yK,xW,zeros,Jl]
theorem zIZ{k:Nat}(hk:k<x.zA.length){y:Vec}:V (suf (exx D x m T) (k+1)) (sgG D x m T k y):=by have ok:=uH h hE hT (k:=k+1) (by omega);exact kY (yU ok) _ _ (zQG h hE hT hk) (wG ok)
theorem zDa{k:Nat}(hk:k<x.zA.length){y u:Vec}(hy:V (suf x (k+1)) y)(hu:Row m.Prime D u):
  sig (suf (exx D x m T) (k+1)) (lvl (exx D x m T) k) (y++u)=(sgG D x m T k y).take (x.zA.length-(k+1))++adv m.Prime D ((sgG D x m T k y).drop (x.zA.length-(k+1))) (xG m.Prime D u (m.zF.getD k [])):=by
 have hp:=hE.m.p.pos;have hA:=hE.m.mat k hk;have ef:=vC h (by omega) hy;unfold sig;rw[zCZ h hE hT hk,zQE _ _ _ _ _ (by grind[jT])];show img _ (eC2 x m D k) u (sgG D x m T k y)=_;obtain⟨y1,u1,e,fj,ct⟩:=(sV h hE hT (x.zA.length-(k+1)) (k+1) (by omega) _).1 (zIZ h hE hT hk (y:=y));have gT:=vC h (by omega) fj;rw[e,eC2,yBB h hE hT hk,show x.zA.length-1-k=x.zA.length-(k+1)from by omega,zOV h hE hT (by omega) _ _ _ _ (fun r hr=>?_) fj ct,zHH (by omega) _ _ _ (by rw[hA.1,hu.1]) (fun i hi=>(hu.2 i (by rw[<-hu.1];exact hi)).1) ct,zUs hA.1,Jr gT,K4 gT];obtain⟨j,hj,rfl⟩:=Jz.1 hr;have fN:=hA.1;have:=hA.2 j (by omega)
 grind
theorem zHI{k:Nat}(hk:k<x.zA.length){u:Vec}(hu:Row m.Prime D u):
  sig (suf (exx D x m T) (k+1)) (lvl (exx D x m T) k) (zeros (x.zA.length-(k+1))++u)=zeros (x.zA.length-(k+1))++xG m.Prime D u (m.zF.getD k []):=by
 have hp:=hE.m.p.pos;have ok:=h.okAt (k:=k+1) (by omega);have hz:=wG ok;rw[yK]at hz;have e:sgG D x m T k (zeros (x.zA.length-(k+1)))=zeros (x.zA.length-(k+1))++zeros D:=by grind[sgG,qI,zCg]
 rw[zDa h hE hT hk hz hu,e,Jr (zW _),K4 (zW _),wW (vA)]
theorem zJa{k:Nat}(hk:k<x.zA.length):∀(q:Nat){u:Vec},Row m.Prime D u->
  iter q (sig (suf (exx D x m T) (k+1)) (lvl (exx D x m T) k)) (zeros (x.zA.length-(k+1))++u)=zeros (x.zA.length-(k+1))++iter q (fun u=>xG m.Prime D u (m.zF.getD k [])) u
 |0,u,_=>rfl
 |q+1,u,hu=>by have hp:=hE.m.p.pos;show iter q _ (sig _ _ _)=_;rw[zHI h hE hT hk hu,zJa hk q (vA)];rfl
end
theorem zGF{p:Int}{D:Nat}{A:Mx}(hA:Mat p D A)(hp:2<=p){r:List Int}(hr:Row p D r):∀q,iter q (fun u=>xG p D u A) r=xG p D r (pw (PM p D) (idM D) A q)
 |0=>(jN hr).symm
 |q+1=>by
  have hm:Mat p D (pw (PM p D) (idM D) A q):=vS (S:=Mat p D) (fun _ hB=>zDH (by omega) hB.1) q (sS hp);unfold pw at*
  rw[vF,vF,zGF hA hp hr q];exact zEt hm.1
theorem zUt{p:Int}{D:Nat}(hp:0<p:=by omega){r:List Int}:iter p.toNat (fun w=>adv p D w r) (zeros D)=zeros D:=by
 rw[zIY hp _ _ (xD hp)];rw[show zeros D=mkv D fun _=>0 from uB D];refine zV fun j hj=>?_
 rw[zT hj,Ql (by omega),L4,Int.mul_emod_right]
theorem kF{p:Int}{D:Nat}{A:Mx}:xG p D (zeros D) A=zeros D:=by
 rw[show zeros D=mkv D fun _=>0 from uB D];refine zV fun j hj=>?_
 rw[xK (g:=fun _=>0) fun l hl=>by rw[zT hl,U0],tZ,Jb8]
theorem zRW{p:Int}{D q:Nat}{A:Mx}(hq:q<D)(hA:Mat p D A):xG p D (xE D q) A=A.getD q []:=by
 have hr:=hA.2 q hq
 conv=>rhs;rw[wI hr.1]
 refine zV fun j hj=>?_
 rw[zAY,zBo (k:=q) hq (fun i hi gk=>by rw[zT hi,if_neg gk,U0]),zT hq,if_pos rfl,Qm,tM (hr.2 j hj)]
theorem sN{p:Int}{D q:Nat}(hp:2<=p:=by omega):Row p D (xE D q):=by rw[zAY];exact⟨zU _ _,by grind[zT]⟩
theorem zNi{N D q:Nat}(hq:q<D:=by omega):xE (N+D) (N+q)=zeros N++xE D q:=by
 rw[zBv,zBv hq,<-Jh]
 grind[zeros,Jl]
def aM(m:zB)(D k:Nat)(v:Vec):Mx:=img (PM m.Prime D) (m.zF.drop k) v (idM D)
theorem zUu{p:Int}{D:Nat}(hp:2<=p):Mon (Mat p D) (PM p D) (idM D):=
 ⟨fun ha _=>zDH (by omega) ha.1,sS,fun ha hb _=>zMO ha.1 hb.1,fun ha=>zBU ha,fun ha=>zDI ha⟩
section
variable {D:Nat}{x:SPr}{m:zB}{T:Mx} (h:Pres x) (hE:ExB x.zA.length D x m T) (hT:∀i,i<T.length->Row m.Prime D (T.getD i []))
 include h hE hT
theorem zUv{k:Nat}(hk:k<x.zA.length):(eC1 x T k).map (·.take (x.zA.length-(k+1)))=(lvl x k).cs:=by
 have _:=hE;have _:=hT;have gy:=zB2 h.w hk;apply Kw;intro j
 by_cases g:j<x.zA.length-(k+1)
 ·obtain⟨c,_,_,c3,c4⟩:=zF7 h hk g
  have hl:=vC h (by omega) c3;have e1:((eC1 x T k).map (·.take (x.zA.length-(k+1))))[j]? =iW (((lvl x k).cs.getD j []++T.getD (base x.zA.length k+j) []).take (x.zA.length-(k+1))):=by simp[eC1,gl,show j<x.zA.length-1-k by omega]
  grind
 ·rw[La (by simp[eC1,gl];omega),La (by omega)]
theorem zNj{k:Nat}(hk:k<x.zA.length):m.zF.drop k=m.zF.getD k []::m.zF.drop (k+1):=by
 have _:=h;have _:=hT;have hl:=hE.m.len
 grind[Gz]
theorem zXX{k:Nat}(hk:k<x.zA.length){b:Int}{y:Vec}:aM m D k (b::y)=PM m.Prime D (pw (PM m.Prime D) (idM D) (m.zF.getD k []) b.toNat) (aM m D (k+1) y):=by
 have M:=zUu hE.m.p.pos.1 (D:=D);unfold aM;rw[zNj h hE hT hk];refine qY M (hE.m.mat k hk) fun c hc=>?_
 obtain⟨i,hi,rfl⟩:=Jz.1 (List.mem_of_mem_drop hc);have:=hE.m.mat i (by rw[<-hE.m.len];exact hi)
 grind
theorem pwM{k q:Nat}(hk:k<x.zA.length):Mat m.Prime D (pw (PM m.Prime D) (idM D) (m.zF.getD k []) q):=by have _:=h;have _:=hT;have _:=hk;have hp:=hE.m.p.pos;exact vS (S:=Mat m.Prime D) (fun _ hB=>zDH (by omega) hB.1) q (sS)
theorem zQH:∀(d k:Nat),k+d=x.zA.length-> ∀r y v,Row m.Prime D r->V (suf x k) y->Row m.Prime D v->mul (suf (exx D x m T) k) (zeros d++r) (y++v)=y++adv m.Prime D (xG m.Prime D r (aM m D k y)) v
 |0,k,hk,r,y,v,hr,hy,hv=>by
  have hp:=hE.m.p.pos;rw[vN (x:=x) (k:=k)]at hy;obtain rfl:y=[]:=hy;rw[zBx h hE hT D k (by omega) (by omega)];have e:aM m D k []=idM D:=by unfold aM;cases m.zF.drop k<;>rfl
  rw[e,jN hr];exact jS (by omega) D r v hr hv
 |d+1,k,hk,r,y,v,hr,hy,hv=>by
  have hl:=xW h hE hT;have hp:=hE.m.p.pos;have hA:=hE.m.mat k (by omega);rw[yC (x:=x)]at hy;cases y with
  |nil=>exact hy.elim
  |cons b y=>
   obtain⟨⟨b0,b1⟩,hy⟩:=hy;change b<at0 x.zA k at b1;rw[yC (x:=exx D x m T)];show mul _ (0::(zeros d++r)) (b::(y++v))=_;have e:=zJa h hE hT (k:=k) (by omega) b.toNat hr;rw[show x.zA.length-(k+1)=d from by omega]at e;rw[yQ,zC7 h hE hT (by omega),if_neg (by omega),e,zGF hA (by omega) hr,zQH d (k+1) (by omega) _ y v (vA) hy hv,L4,zXX h hE hT (by omega),<-zEt (pwM h hE hT (by omega)).1];rfl
theorem zNk{k:Nat}(hk:k<x.zA.length)(ih:∀a b,V (suf (exx D x m T) (k+1)) a->V (suf (exx D x m T) (k+1)) b->(mul (suf (exx D x m T) (k+1)) a b).take (x.zA.length-(k+1))=mul (suf x (k+1)) (a.take (x.zA.length-(k+1))) (b.take (x.zA.length-(k+1)))){v:Vec}(hv:V (suf (exx D x m T) (k+1)) v):
  (sig (suf (exx D x m T) (k+1)) (lvl (exx D x m T) k) v).take (x.zA.length-(k+1))=sig (suf x (k+1)) (lvl x k) (v.take (x.zA.length-(k+1))):=by
 have ok:=uH h hE hT (k:=k+1) (by omega);obtain⟨y,u,rfl,hy,hu⟩:=(sV h hE hT (x.zA.length-(k+1)) (k+1) (by omega) _).1 hv;have ef:=vC h (by omega) hy;obtain⟨y1,u1,e,fj,ct⟩:=(sV h hE hT (x.zA.length-(k+1)) (k+1) (by omega) _).1 (zIZ h hE hT hk (y:=y));have gT:=vC h (by omega) fj;rw[zDa h hE hT hk hy hu,Jr (by grind),Jr ef];unfold sgG sig;rw[zFP (S:=V (suf (exx D x m T) (k+1))) (n:=mul (suf x (k+1))) (·.take (x.zA.length-(k+1))) (fun a b=>yU ok) ih _ _ _ (zQG h hE hT hk) (wG ok),zUv h hE hT hk,zCg h hE hT (by omega),Jr (zW _),yK]
theorem zLt:∀(d k:Nat),k+d=x.zA.length-> ∀a b,V (suf (exx D x m T) k) a->V (suf (exx D x m T) k) b->(mul (suf (exx D x m T) k) a b).take d=mul (suf x k) (a.take d) (b.take d)
 |0,k,hk,a,b,_,_=>by rw[vN (x:=x),Ki];rfl
 |d+1,k,hk,a,b,ha,hb=>by
  have hl:=xW h hE hT;have ih:=zLt d (k+1) (by omega);have hd:d=x.zA.length-(k+1):=by omega
  have ok:=uH h hE hT (k:=k+1) (by omega);have ok0:=uH h hE hT (k:=k) (by omega);rw[hd]at ih;have hs:=fun v hv=>zNk h hE hT (k:=k) (by omega) ih (v:=v) hv
  rw[yC (x:=exx D x m T)]at ha hb ok0 ⊢
  rw[yC (x:=x)];cases a with
  |nil=>rfl
  |cons a u=>
  cases b with
  |nil=>rfl
  |cons b v=>
   have ew:∀q u,V (suf (exx D x m T) (k+1)) u->(iter q (sig (suf (exx D x m T) (k+1)) (lvl (exx D x m T) k)) u).take d=iter q (sig (suf x (k+1)) (lvl x k)) (u.take d)/\V (suf (exx D x m T) (k+1)) (iter q (sig (suf (exx D x m T) (k+1)) (lvl (exx D x m T) k)) u):=by
    intro q
    induction q with
    |zero=>intro u hu;exact⟨rfl,hu⟩
    |succ q ihq=>
     intro u hu;have:=ihq _ (zD6 ok0 hu);rw[hd,hs u hu]at this;rw[hd];exact this
   obtain⟨aC,fx⟩:=ew b.toNat u ha.2;have hm:=yU ok fx hb.2;rw[yQ,Lf,Lf,yQ,zC7 h hE hT (by omega),show(lvl x k).o=at0 x.zA k from rfl];have e1:=ih _ _ fx hb.2;rw[<-hd,aC]at e1;split
   ·rw[Lf]
    have e2:=ih _ _ ok0.2.1 hm;rw[<-hd,e1]at e2;rw[e2]
    congr 2
    have ht:=(h.tl k (by omega)).1;have hw:=zAk ht;have hwl:(lvl x k).w.length=x.zA.length-(k+1):=vC h (by omega) hw;rw[zIX h hE hT (by omega),Jr (by omega)]
   grind
end
theorem zRX{p:Int}{d:Nat}(hp:2<=p):∀c∈wB d,Row p d c:=fun c hc=>by obtain⟨k,_,rfl⟩:=Jn.1 hc;exact sN hp
theorem zXY{p:Int}(hp:2<=p){d:Nat}{w:Vec}(hw:Row p d w):sig (tlv p d) ⟨p,zeros d,wB d⟩ w=w:=by
 unfold sig;rw[zHG,zEr (S:=Row p d) (m':=adv p d) (by grind[jS]) (fun _ _ _ _=>sU) (wB d) w _ (zRX hp) (xD),zHH (by omega) (wB d) w _ (by rw[hw.1];simp[wB]) (fun i hi=>(hw.2 i (by rw[<-hw.1];exact hi)).1) (xD)]
 conv=>rhs;rw[wI hw.1]
 refine zV fun j hj=>?_
 have eQ:(wB d).length=d:=by simp[wB]
 rw[eQ,vG,L4,zBo (k:=j) hj (fun k hk gk=>by rw[zEs hk hj,if_neg (Ne.symm gk),Lp]),zEs hj hj,if_pos rfl,H2,tM (hw.2 j hj)]
structure LCn (x e:SPr) (k:Nat):Prop where
 c1:∀j,k+1<=j->j<x.zA.length->pw (mul (suf e (k+1))) (zeros (suf e (k+1)).length) ((lvl e k).cs.getD (j-(k+1)) []) (at0 e.zA j).toNat=sig (suf e (k+1)) (lvl e k) ((e.zJ.getD j []).drop (k+1))
 c2:∀i,k+1<=i->i<x.zA.length-> ∀j,i+1<=j->j<x.zA.length->
  mul (suf e (k+1)) ((lvl e k).cs.getD (j-(k+1)) []) ((lvl e k).cs.getD (i-(k+1)) [])=mul (suf e (k+1)) ((lvl e k).cs.getD (i-(k+1)) []) (sig (suf e (k+1)) (lvl e k) (((e.zC.getD i []).getD (j-(i+1)) []).drop (k+1)))
 c3:sig (suf e (k+1)) (lvl e k) (lvl e k).w=(lvl e k).w
 c4:∀j,k+1<=j->j<x.zA.length->mul (suf e (k+1)) (lvl e k).w (iter (lvl e k).o.toNat (sig (suf e (k+1)) (lvl e k)) (xE (e.zA.length-(k+1)) (j-(k+1))))=mul (suf e (k+1)) (xE (e.zA.length-(k+1)) (j-(k+1))) (lvl e k).w
section
variable {D:Nat}{x:SPr}{m:zB}{T:Mx} (h:Pres x) (hE:ExB x.zA.length D x m T) (hT:∀i,i<T.length->Row m.Prime D (T.getD i []))
 include h hE hT
theorem zUw{k j:Nat}(hk:k<x.zA.length)(hj:x.zA.length<=j)(h2:j<x.zA.length+D):(lvl (exx D x m T) k).cs.getD (j-(k+1)) []=zeros (x.zA.length-(k+1))++(m.zF.getD k []).getD (j-x.zA.length) []:=by
 rw[zCZ h hE hT hk,J2,Ji (by grind[jT]),jT h hE hT,eC2]
 grind
theorem zJb{k j:Nat}(hk:k<x.zA.length)(hj:k+1<=j)(h2:j<x.zA.length):(lvl (exx D x m T) k).cs.getD (j-(k+1)) []=(lvl x k).cs.getD (j-(k+1)) []++T.getD (base x.zA.length k+(j-(k+1))) []:=by
 rw[zCZ h hE hT hk,J2,K0 (by grind[jT]),eC1]
 grind
theorem zEG{i j:Nat}(hi:i<j)(hj:j<x.zA.length):Row m.Prime D (T.getD (base x.zA.length i+(j-(i+1))) []):=by have _:=h;have hn:=hE.hn;have hb:=zBW x.zA.length (by omega) i (by omega);exact hT _ (by rw[hE.t];omega)
theorem zDb{i:Nat}(hi:i<x.zA.length):Row m.Prime D (T.getD i []):=by have _:=h;have hn:=hE.hn;have hb:=xY x.zA.length (by omega);exact hT _ (by rw[hE.t];omega)
theorem zFb{k j:Nat}(hj:k<=j)(h2:j<x.zA.length):((exx D x m T).zJ.getD j []).drop (k+1)=(x.zJ.getD j []).drop (k+1)++T.getD j []:=by have t1:=(h.tl j h2).1.1.1;have _:=hE;have _:=hT;have hP:(exx D x m T).zJ.getD j []=exP x.zA.length D x T j:=xR;rw[hP,exP,if_pos h2,Kq (by omega)]
theorem yBC{k j:Nat}(hk:k<x.zA.length)(hj:x.zA.length<=j)(h2:j<x.zA.length+D):((exx D x m T).zJ.getD j []).drop (k+1)=zeros (x.zA.length-(k+1))++zeros D:=by
 have _:=h;have _:=hE;have _:=hT;have hP:(exx D x m T).zJ.getD j []=exP x.zA.length D x T j:=xR;rw[hP,exP,if_neg (by omega),Lg]
 grind[zeros,Jl]
theorem zJc{i:Nat}(hi:i<x.zA.length+D):(exx D x m T).zC.getD i []=exC x.zA.length D x m T i:=by
 have _:=h;have _:=hE;have _:=hT;show(gl (x.zA.length+D) (exC x.zA.length D x m T)).getD i []=_
 grind
theorem zGG{k i j:Nat}(hk:k<=i)(hi:i<j)(hj:j<x.zA.length):(((exx D x m T).zC.getD i []).getD (j-(i+1)) []).drop (k+1)=((x.zC.getD i []).getD (j-(i+1)) []).drop (k+1)++T.getD (base x.zA.length i+(j-(i+1))) []:=by obtain⟨_,t2,t3⟩:=h.tl i (by omega);have t:=(t3 (j-(i+1)) (by omega)).1.1;rw[zJc h hE hT (by omega),exC,if_pos (by omega),xR,exF,if_pos (by omega),Kq (by omega)]
theorem yBD{k i j:Nat}(hk:k<x.zA.length)(hi:i<x.zA.length)(hj:x.zA.length<=j)(h2:j<x.zA.length+D):(((exx D x m T).zC.getD i []).getD (j-(i+1)) []).drop (k+1)=zeros (x.zA.length-(k+1))++(m.zF.getD i []).getD (j-x.zA.length) []:=by rw[zJc h hE hT (by omega),exC,if_pos (by omega),xR,exF,if_neg (by omega),Kq (by simp;omega),Lg,show j-(i+1)-(x.zA.length-1-i)=j-x.zA.length from by omega];rfl
theorem yBE{k i j:Nat}(hk:k<x.zA.length)(hi:x.zA.length<=i)(hj:i<j)(h2:j<x.zA.length+D):(((exx D x m T).zC.getD i []).getD (j-(i+1)) []).drop (k+1)=zeros (x.zA.length-(k+1))++xE D (j-x.zA.length):=by
 rw[zJc h hE hT (by omega),exC,if_neg (by omega),unC,xR,tV,zIW,<-zNi,zAY]
 grind
theorem zXZ(hr:zC3 x m D){k:Nat}(hk:k<x.zA.length):pw (PM m.Prime D) (idM D) (m.zF.getD k []) (at0 x.zA k).toNat=aM m D (k+1) (lvl x k).w/\
  ∀i,k<i->i<x.zA.length->PM m.Prime D (m.zF.getD i []) (m.zF.getD k [])=PM m.Prime D (m.zF.getD k []) (aM m D (k+1) ((lvl x k).cs.getD (i-(k+1)) [])):=by
 have R:=zQB h hE.m hr (x.zA.length-k) k (by omega);rw[yC hk,zNj h hE hT hk]at R;obtain⟨r1,r2,_⟩:=R;refine⟨r1,fun i h1 h2=>?_⟩;have gy:=zB2 h.w hk;have hl:=hE.m.len;refine r2 (i-(k+1)) _ _ ?_ ?_
 all_goals grind
theorem zv{k:Nat}(hk:k<=x.zA.length):V (suf x k) (zeros (x.zA.length-k)):=by
 have _:=hE;have _:=hT;have:=wG (h.okAt hk)
 grind[yK]
theorem zOW(hr:zC3 x m D){k:Nat}(hk:k<x.zA.length)(hc:LCn x (exx D x m T) k):LC (exx D x m T) k:=by
 have hp:=hE.m.p.pos;have hl:=xW h hE hT;have hA:=hE.m.mat k hk;obtain⟨r1,r2⟩:=zXZ h hE hT hr hk;have hz:=zv h hE hT (k:=k+1) (by omega);have aT:Row m.Prime D (zeros D):=xD;have hw:=(yB0 h hk).2;refine⟨fun j h1 h2=>?_,fun i h1 h2 j h3 h4=>?_,hc.c3,fun j h1 h2=>?_⟩
 ·rw[hl]at h2
  rcases Jk j x.zA.length with g|g
  ·exact hc.c1 j h1 g
  ·have hq:=hA.2 (j-x.zA.length) (by omega)
   rw[zUw h hE hT hk g h2,yBC h hE hT hk g h2,zHI h hE hT hk aT,kF,zCY h hE hT g h2,zCg h hE hT (by omega)];have e:=zOV h hE hT (d:=x.zA.length-(k+1)) (k:=k+1) (by omega) [(m.zF.getD k []).getD (j-x.zA.length) []] [m.Prime] _ _ (by grind) hz aT;have e2:iter m.Prime.toNat (fun w=>adv m.Prime D w ((m.zF.getD k []).getD (j-x.zA.length) [])) (zeros D)=zeros D:=zUt;unfold pw;refine e.trans ?_;show zeros _++iter m.Prime.toNat (fun w=>adv m.Prime D w ((m.zF.getD k []).getD (j-x.zA.length) [])) (zeros D)=_;rw[e2]
 ·rw[hl]at h4
  rcases Jk j x.zA.length with g|g
  ·exact hc.c2 i h1 (by omega) j h3 g
  ·have hq:=hA.2 (j-x.zA.length) (by omega)
   rw[zUw h hE hT hk g h4];rcases Jk i x.zA.length with gi|gi
   ·have hAi:=hE.m.mat i gi
    have dg:=hAi.2 (j-x.zA.length) (by omega);have pD:=(zAU h hk h1 gi).2.2;have ht:=zEG h hE hT (i:=k) (j:=i) (by omega) gi;rw[zJb h hE hT hk h1 gi,yBD h hE hT hk gi g h4,zHI h hE hT hk dg,zQH h hE hT _ (k+1) (by omega) _ _ _ hq pD ht,zFQ h hE hT _ (k+1) (by omega) _ _ _ pD ht (vA),uD]
    congr 2
    rw[<-zCO (by rw[hA.1];omega),<-zCO (by rw[hAi.1];omega),r2 i (by omega) gi]
   ·have dg:=hA.2 (i-x.zA.length) (by omega)
    rw[zUw h hE hT hk gi (by omega),yBE h hE hT hk gi (by omega) h4,zHI h hE hT hk (sN),zRW (by omega) hA,zFQ h hE hT _ (k+1) (by omega) _ _ _ hz hq dg,zFQ h hE hT _ (k+1) (by omega) _ _ _ hz dg hq,uD]
 ·rw[hl]at h2 ⊢
  rcases Jk j x.zA.length with g|g
  ·have:=hc.c4 j h1 g
   grind
  ·have ht:=zDb h hE hT hk
   have hu:Row m.Prime D (xE D (j-x.zA.length)):=sN;rw[show x.zA.length+D-(k+1)=x.zA.length-(k+1)+D from by omega,show j-(k+1)=x.zA.length-(k+1)+(j-x.zA.length)from by omega,zNi,zC7 h hE hT hk,zJa h hE hT hk _ hu,zIX h hE hT hk,zGF hA (by omega) hu,r1,zQH h hE hT _ (k+1) (by omega) _ _ _ hu hw ht,zFQ h hE hT _ (k+1) (by omega) _ _ _ hw ht (vA),uD]
theorem yBF{k:Nat}(hk:x.zA.length<=k)(h2:k<x.zA.length+D):LC (exx D x m T) k:=by
 have hp:=hE.m.p.pos;have hl:=xW h hE hT;have hs:=zBx h hE hT (x.zA.length+D-(k+1)) (k+1) (by omega) (by omega);have hL:=zBx h hE hT (x.zA.length+D-(k+1)+1) k (by omega) (by omega);rw[yC,hs,tlv]at hL;have mS:lvl (exx D x m T) k=⟨m.Prime,zeros (x.zA.length+D-(k+1)),wB (x.zA.length+D-(k+1))⟩:=(Ja8.inj hL).1
 generalize hd:x.zA.length+D-(k+1)=d at*
 have eD:∀w,Row m.Prime d w->sig (tlv m.Prime d) ⟨m.Prime,zeros d,wB d⟩ w=w:=by grind[zXY]
 have bv:Row m.Prime d (zeros d):=xD;have dO:∀j,(wB d).getD j []=if j<d then xE d j else[]:=fun j=>by
  by_cases g:j<d
  ·rw[if_pos g,zI9 g]
  ·rw[if_neg g,J2,La (by grind[wB])];rfl
 refine⟨fun j h1 h3=>?_,fun i h1 h3 j h4 h5=>?_,?_,fun j h1 h3=>?_⟩
 ·rw[hl]at h3
  have hP:(exx D x m T).zJ.getD j []=exP x.zA.length D x T j:=xR;rw[hs,mS,zCY h hE hT (by omega) h3,hP,exP,if_neg (by omega),Lg,hd];show pw (mul (tlv m.Prime d)) (zeros (tlv m.Prime d).length) ((wB d).getD (j-(k+1)) []) m.Prime.toNat=sig (tlv m.Prime d) ⟨m.Prime,zeros d,wB d⟩ (zeros d);rw[eD _ bv,dO,if_pos (by omega),zHG];have e:=zEr (S:=Row m.Prime d) (m':=adv m.Prime d) (fun a b ha hb=>jS (by omega) d a b ha hb) (fun _ _ _ _=>sU) [xE d (j-(k+1))] [m.Prime] (zeros d) (by grind[sN]) bv;exact e.trans (zUt)
 ·rw[hl]at h3 h5
  rw[hs,mS,zJc h hE hT h3,exC,if_neg (by omega),unC,xR,tV,zIW,hd];have e:(mkv d fun q=>if k+1+q=i+1+(j-(i+1))then(1:Int)else 0)=xE d (j-(k+1)):=by
   rw[zAY]
   grind
  rw[e,eD _ (sN)];show mul (tlv m.Prime d) ((wB d).getD (j-(k+1)) []) ((wB d).getD (i-(k+1)) [])=mul (tlv m.Prime d) ((wB d).getD (i-(k+1)) []) (xE d (j-(k+1)));rw[dO,dO,if_pos (by omega),if_pos (by omega),jS (by omega) d _ _ (sN) (sN),jS (by omega) d _ _ (sN) (sN),uD]
 ·grind
 ·rw[hl]at h3 ⊢
  have hu:Row m.Prime d (xE d (j-(k+1))):=sN;rw[hs,mS,hd,zIR (eD _ hu),jS (by omega) d _ _ bv hu,jS (by omega) d _ _ hu bv,uD]
theorem zDO:∀(d k:Nat),x.zA.length<=k->k+d=x.zA.length+D->xU (suf (exx D x m T) k)
 |0,k,hk,hd=>by rw[vN (by grind[xW])];simp only[xU]
 |d+1,k,hk,hd=>(qZ (zEq h hE hT) (by rw[xW h hE hT];omega)).2 ⟨zDO d (k+1) (by omega) (by omega),by grind[yBF]⟩
theorem zLu(hr:zC3 x m D):xU (suf (exx D x m T) 0)↔ ∀k,k<x.zA.length->LCn x (exx D x m T) k:=by
 have hl:=xW h hE hT;have key:∀(d k:Nat),k+d=x.zA.length->(xU (suf (exx D x m T) k)↔ ∀i,k<=i->i<x.zA.length->LCn x (exx D x m T) i):=by
  intro d
  induction d with
  |zero=>grind[zDO]
  |succ d ih=>
   intro k hk;rw[qZ (zEq h hE hT) (by omega),ih (k+1) (by omega)];constructor
   ·rintro⟨g1,g2⟩ i h1 h2
    rcases Jk k i with g|g
    ·grind
    ·obtain rfl:i=k:=by omega
     exact⟨fun j a b=>g2.c1 j a (by omega),fun i a b j c d=>g2.c2 i a (by omega) j c (by omega),g2.c3,fun j a b=>g2.c4 j a (by omega)⟩
   grind[zOW]
 simp_all
end
def prE(x:SPr)(k:Nat)(w:Vec):zI:=⟨fv k (w.take (x.zA.length-k)),w.drop (x.zA.length-k)⟩
theorem jU{x:SPr}{k:Nat}{y u:Vec}(hy:y.length=x.zA.length-k):prE x k (y++u)=⟨fv k y,u⟩:=by grind[prE]
theorem zDc{α α' β:Type}{body:α×α'×Int->Option ((α×α'×Int)⊕(α×α'))}{S:β->Prop}(e1:β->α)(e2:β->α')(g:β->β)(n:Int)(hn:0<=n)(hS:∀a,S a->S (g a))
  (h:∀a(i:Nat),S a->(i:Int)<n->body (e1 a,e2 a,(i:Int))=iW (.inl (e1 (g a),e2 (g a),((i+1:Nat):Int))))(he:∀a,S a->body (e1 a,e2 a,n)=iW (.inr (e1 a,e2 a))){a:β}(ha:S a):
  zH body (e1 a,e2 a,0)=iW (e1 (iter n.toNat g a),e2 (iter n.toNat g a)):=by
 have ew:∀k,S (iter k g a):=fun k=>vS (S:=S) hS k ha
 exact zQ (body:=body) (r:=(e1 (iter n.toNat g a),e2 (iter n.toNat g a))) (fun i=>(e1 (iter i g a),e2 (iter i g a),(i:Int))) n.toNat (by grind[vF]) (by grind)
structure Mv (D n:Nat) (m0 m:zB):Prop where
 pr:m0.Prime=m.Prime
 mv:∀k,k<n-> ∀u,Row m.Prime D u->zWi m0 u (k:Int)=iW (xG m.Prime D u (m.zF.getD k []))
theorem Mv.self{n D:Nat}{m:zB}(hE:MOk n m D):Mv D n m m:=by
 refine⟨rfl,fun k hk u hu=>?_⟩;have h3:=hE.d3;have h1:=hE.d1;have hA:=hE.mat k hk;have eQ:=hu.1;have hl:=hE.len;unfold zWi;have e1:zGd m u (k:Int) ([],0)=iW (.inl (xG m.Prime D u (m.zF.getD k []),(D:Int))):=by
  unfold zGd;simp only
  rw[jc,zK,hE.d,zG,bs,L4];have fU:zL u 0 (D:Int)=iW u:=by
   unfold zL;rw[if_pos (by omega)]
   congr 1
   rw[show((D:Int)).toNat=D from by omega,show(0:Int).toNat=0 from rfl,Hq,Jo (by omega)]
  rw[fU,bs,zY [],bs,zCP hE.p (by omega) hu hA,bs,zX (by grind[xG,zU]),bs,bs,Jv]
 have e2:zGd m u (k:Int) (xG m.Prime D u (m.zF.getD k []),(D:Int))=iW (.inr (xG m.Prime D u (m.zF.getD k []))):=by
  unfold zGd
  simp_all
 grind[yR]
section
variable {D:Nat}{x:SPr}{m0 m:zB}{T:Mx} (h:Pres x) (hE:ExB x.zA.length D x m T) (hT:∀i,i<T.length->Row m.Prime D (T.getD i []))
def zUx(D:Nat)(x:SPr)(m0 m:zB)(T:Mx)(k:Nat)(g:zO->Int->zI->zI->Option zI):Prop:=
 ∀a b,V (suf (exx D x m T) k) a->V (suf (exx D x m T) k) b->g ⟨x,m0,T⟩ k (prE x k a) (prE x k b)=iW (prE x k (mul (suf (exx D x m T) k) a b))
def zUy(D:Nat)(x:SPr)(m0 m:zB)(T:Mx)(k:Nat)(g:zO->Int->zI->Option zI):Prop:=
 ∀v,V (suf (exx D x m T) (k+1)) v->g ⟨x,m0,T⟩ k (prE x (k+1) v)=iW (prE x (k+1) (sig (suf (exx D x m T) (k+1)) (lvl (exx D x m T) k) v))
 include h hE hT
theorem zQI{k i j:Nat}(hk:k<=i)(hi:i<j)(hj:j<x.zA.length):zLL ⟨x,m0,T⟩ (i:Int) (j:Int)=iW (prE x (k+1) ((((exx D x m T).zC.getD i []).getD (j-(i+1)) []).drop (k+1)))/\V (suf (exx D x m T) (k+1)) ((((exx D x m T).zC.getD i []).getD (j-(i+1)) []).drop (k+1)):=by
 have hn:=hE.hn;have hb:=zBW x.zA.length (by omega) i (by omega);have ht:=hE.t;obtain⟨_,t2,t3⟩:=h.tl i (by omega);have tt:=t3 (j-(i+1)) (by omega);obtain⟨e1,e2⟩:=zDD (k:=k+1) tt;have hl:=vC h (by omega) e2;have gy:=h.cl;have hr:=zEG h hE hT hi hj;refine⟨?_,?_⟩
 ·rw[zGG h hE hT hk hi hj,jU hl,<-e1]
  unfold zLL;dsimp only
  rw[zY [],bs,zG,bs,zG,bs,show(j:Int)-(i:Int)-1=((j-(i+1):Nat):Int)from by omega,zY [],bs,zOK x.zA.length (by omega) j hj i hi,bs,zY [],bs,show j-i-1=j-(i+1)from by omega]
 ·rw[zGG h hE hT hk hi hj]
  exact(sV h hE hT (x.zA.length-(k+1)) (k+1) (by omega) _).2 ⟨_,_,rfl,e2,hr⟩
theorem zFR{k j:Nat}(hk:k<j)(hj:j<x.zA.length):zLL ⟨x,m0,T⟩ (k:Int) (j:Int)=iW (prE x (k+1) ((lvl (exx D x m T) k).cs.getD (j-(k+1)) []))/\V (suf (exx D x m T) (k+1)) ((lvl (exx D x m T) k).cs.getD (j-(k+1)) []):=by
 have e:(lvl (exx D x m T) k).cs.getD (j-(k+1)) []=(((exx D x m T).zC.getD k []).getD (j-(k+1)) []).drop (k+1):=by
  have hC:((exx D x m T).zC.getD k []).length=x.zA.length+D-1-k:=by rw[zJc h hE hT (by omega),exC,if_pos (by omega),xI]
  simp only[lvl];rw[J2,Jx,J5 (by omega),J2 (l:=(exx D x m T).zC.getD k []),J5 (by omega)];rfl
 rw[e];exact zQI h hE hT (Je k) hk hj
theorem zLv{k j:Nat}(hk:k<=j)(hj:j<x.zA.length):zP0 ⟨x,m0,T⟩ (j:Int)=iW (prE x (k+1) (((exx D x m T).zJ.getD j []).drop (k+1)))/\V (suf (exx D x m T) (k+1)) (((exx D x m T).zJ.getD j []).drop (k+1)):=by
 have hn:=hE.hn;have hb:=xY x.zA.length (by omega);have ht:=hE.t;have fP:=h.pl;have t1:=(h.tl j hj).1;obtain⟨e1,e2⟩:=zDD (k:=k+1) t1;have hl:=vC h (by omega) e2;have hr:=zDb h hE hT hj;refine⟨?_,?_⟩
 ·rw[zFb h hE hT hk hj,jU hl,<-e1]
  grind[zP0,zY]
 ·rw[zFb h hE hT hk hj]
  exact(sV h hE hT (x.zA.length-(k+1)) (k+1) (by omega) _).2 ⟨_,_,rfl,e2,hr⟩
theorem zLw{k:Nat}(hk:k<=x.zA.length)(h0:0<x.zA.length):zNV ⟨x,m0,T⟩=iW (prE x k (zeros (suf (exx D x m T) k).length)):=by
 have hn:=hE.hn;have h3:=hE.m.d3;have hb:=xY x.zA.length (by omega);have ht:=hE.t;have hr:=zDb h hE hT h0;have ft:=hr.1;unfold zNV;dsimp only
 have e0:ixO T 0=iW (T.getD 0 []):=by grind[zY]
 rw[jc,zK,e0,bs,yP,bs,yP,bs,zCg h hE hT hk,jU (zW _),ft,fv]
 grind[zeros,Jl]
theorem zUz{u v:Vec}(hu:Row m.Prime D u)(hv:Row m.Prime D v):f_A m.Prime u 1 v=iW (adv m.Prime D u v):=by
 have _:=h;have _:=hT;have h3:=hE.m.d3;rw[vJ hE.m.p hu hv (by omega) (by omega)]
 congr 1
 exact zV (by simp)
theorem prV{k:Nat}(hk:k<=x.zA.length){w:Vec}(hw:V (suf (exx D x m T) k) w):∃y u,w=y++u/\V (suf x k) y/\Row m.Prime D u/\prE x k w=⟨fv k y,u⟩/\y.length=x.zA.length-k:=by obtain⟨y,u,rfl,hy,hu⟩:=(sV h hE hT (x.zA.length-k) k (by omega) _).1 hw;have ef:=vC h hk hy;exact⟨y,u,rfl,hy,hu,jU ef,ef⟩
variable (hM:Mv D x.zA.length m0 m)
 include hM
theorem zNl{k:Nat}(hk:k<x.zA.length){g:zO->Int->zI->zI->Option zI}(hg:zUx D x m0 m T (k+1) g):zUy D x m0 m T k (b_f g):=by
 intro v hv;have hn:=hE.hn;have hp:=hE.m.p.pos;have ok:=uH h hE hT (k:=k+1) (by omega);have hA:=hE.m.mat k hk;obtain⟨y,u,rfl,hy,hu,fX,ef⟩:=prV h hE hT (k:=k+1) (by omega) hv;obtain⟨_,hyr⟩:=zEV h.os (x.zA.length-(k+1)) (k+1) y (by omega) hy;have gy:=jT h hE hT (k:=k);have gY:=zQG h hE hT hk;have hcg:∀i,i<x.zA.length-(k+1)->(eC1 x T k).getD i []=(lvl (exx D x m T) k).cs.getD i []:=fun i hi=>by rw[zCZ h hE hT hk,J2,J2,K0 (by omega)]
 obtain⟨A,dA⟩:∃A:Nat->Vec,∀i,A i=img (mul (suf (exx D x m T) (k+1))) ((eC1 x T k).take i) (y.take i) (zeros (suf (exx D x m T) (k+1)).length):=⟨_,fun _=>rfl⟩;have hI:∀i,V (suf (exx D x m T) (k+1)) (A i):=fun i=>by rw[dA];exact kY (yU ok) _ _ (by grind) (wG ok)
 have hA0:A 0=zeros (suf (exx D x m T) (k+1)).length:=by grind[img]
 have hAn:A (x.zA.length-(k+1))=sgG D x m T k y:=by rw[dA,Jo (by omega),Jo (by omega)];rfl
 rw[fX];unfold b_f;dsimp only
 rw[zLw h hE hT (k:=k+1) (by omega) (by omega),bs,zG,bs,cs];have:=zQ (body:=zWj g ⟨x,m0,T⟩ k ⟨fv (k+1) y,u⟩) (r:=((prE x (k+1) (sgG D x m T k y)).x,(prE x (k+1) (sgG D x m T k y)).v))
  (fun i=>((prE x (k+1) (A i)).x,(prE x (k+1) (A i)).v,((k+1+i:Nat):Int))) (x.zA.length-(k+1)) (fun i hi=>by
  have hr:=hyr i hi;obtain⟨c1,c2⟩:=zFR h hE hT (k:=k) (j:=k+1+i) (by omega) (by omega);rw[show k+1+i-(k+1)=i from by omega]at c1 c2;unfold zWj;dsimp only
  rw[jc (by grind[zDB]),zK];rw[zDc (S:=V (suf (exx D x m T) (k+1))) (fun w=>(prE x (k+1) w).x) (fun w=>(prE x (k+1) w).v) (fun w=>mul (suf (exx D x m T) (k+1)) w ((lvl (exx D x m T) k).cs.getD i [])) (at0 y i) hr.1 (by grind[yU]) (fun w q hw hq=>by
   unfold zYA;dsimp only
   rw[fv,zMG,bs,jc hq,zK,zG,bs,c1,bs,cs,show(zI.mk (prE x (k+1) w).x (prE x (k+1) w).v)=prE x (k+1) w from rfl,hg w _ hw c2,bs,zG,bs,cs]) (fun w hw=>by
   unfold zYA;dsimp only
   rw[fv,zMG,bs,jb (by omega),zM]) (hI i),bs,zG,bs,cs]
  rw[dA (i+1),zC0 _ _ _ _ (by omega) (by omega),hcg i hi,<-dA];rfl) (by
  unfold zWj;dsimp only
  rw[jb (by grind[zDB]),zM,hAn])
 rw[hA0,Qy]at this;rw[this,bs,hM.mv k hk _ hu,bs];obtain⟨y1,u1,e,fj,ct,uu,mB⟩:=prV h hE hT (k:=k+1) (by omega) (zIZ h hE hT hk (y:=y));rw[zDa h hE hT hk hy hu,uu,e,Jr mB,K4 mB,jU mB];dsimp only
 rw[hM.pr,zUz h hE hT ct (vA),bs]
theorem zU0{k:Nat}(hk:k<x.zA.length){g:zO->Int->zI->zI->Option zI}{gi:zO->Int->zI->Option zI}(hg:zUx D x m0 m T (k+1) g)(hi:zUy D x m0 m T k gi):zUx D x m0 m T k (b_c gi g):=by
 have _:=hM;intro a b ha hb;have hn:=hE.hn;have hl:=xW h hE hT;have hp:=(h.os.2 k hk).pos;have ok:=uH h hE hT (k:=k+1) (by omega);have ok0:=uH h hE hT (k:=k) (by omega);obtain⟨al,au,rfl,bm,hau,fI,fM⟩:=prV h hE hT (k:=k) (by omega) ha;obtain⟨bl,bu,rfl,cC,hbu,bG,hbll⟩:=prV h hE hT (k:=k) (by omega) hb;rw[fI,bG];rw[yC (x:=x) hk]at bm cC;rw[yC (x:=exx D x m T)]at ok0 ⊢
 obtain⟨a0,a,rfl⟩:∃a0 a',al=a0::a':=by cases al with|nil=>grind|cons p q=>simp
 obtain⟨b0,b,rfl⟩:∃a0 a',bl=a0::a':=by cases bl with|nil=>grind|cons p q=>simp
 obtain⟨⟨a1,a2⟩,bm⟩:=bm;obtain⟨⟨b1,b2⟩,cC⟩:=cC;change a0<at0 x.zA k at a2;change b0<at0 x.zA k at b2;have iR:=vC h (by omega) bm;have iO:=vC h (by omega) cC;have hA:=(sV h hE hT (x.zA.length-(k+1)) (k+1) (by omega) (a++au)).2 ⟨_,_,rfl,bm,hau⟩;have hB:=(sV h hE hT (x.zA.length-(k+1)) (k+1) (by omega) (b++bu)).2 ⟨_,_,rfl,cC,hbu⟩;have own:∀u,V (suf x (k+1)) u->f_q (fv (k+1) u)=iW (fv (k+1) u):=by grind[wZ,zDB]
 have own':∀(c:Int) u,V (suf x (k+1)) u->f_q (fv k (c::u))=iW (fv k (c::u)):=fun c u hu=>wZ (by have:=vC h (by omega) hu;rw[fv,J7,zW,Jd];omega)
 have eD:∀u,V (suf (exx D x m T) (k+1)) u->V (suf (exx D x m T) (k+1)) (sig (suf (exx D x m T) (k+1)) (lvl (exx D x m T) k) u):=by grind[zD6]
 have ew:V (suf (exx D x m T) (k+1)) (iter b0.toNat (sig (suf (exx D x m T) (k+1)) (lvl (exx D x m T) k)) (a++au)):=vS eD _ hA;have ea:(⟨fv (k+1) a,au⟩:zI)=prE x (k+1) (a++au):=(jU iR).symm;have eb:(⟨fv (k+1) b,bu⟩:zI)=prE x (k+1) (b++bu):=(jU iO).symm;unfold b_c;dsimp only
 rw[jb (by omega),zM,own' _ _ bm,bs,own' _ _ cC,bs,zD9,bs,zD9,bs,J6,zEB,zEB,zCN,zCN];have e1:zH (zSx gi ⟨x,m0,T⟩ k ⟨fv k (b0::b),bu⟩) (zeros (k+1)++a,au,0)=iW ((prE x (k+1) (iter b0.toNat (sig (suf (exx D x m T) (k+1)) (lvl (exx D x m T) k)) (a++au))).x,(prE x (k+1) (iter b0.toNat (sig (suf (exx D x m T) (k+1)) (lvl (exx D x m T) k)) (a++au))).v):=by
  have:=zDc (body:=zSx gi ⟨x,m0,T⟩ k ⟨fv k (b0::b),bu⟩) (S:=V (suf (exx D x m T) (k+1))) (fun w=>(prE x (k+1) w).x) (fun w=>(prE x (k+1) w).v) (sig (suf (exx D x m T) (k+1)) (lvl (exx D x m T) k)) b0 b1 eD (fun w q hw hq=>by
   unfold zSx;dsimp only
   rw[zD9,bs,jc hq,zK,show(zI.mk (prE x (k+1) w).x (prE x (k+1) w).v)=prE x (k+1) w from rfl,hi w hw,bs,zG,bs,cs]) (fun w hw=>by
   unfold zSx;dsimp only
   rw[zD9,bs,jb (by omega),zM]) hA
  grind
 rw[e1,bs,zG,bs,cs];dsimp only
 rw[show zeros (k+1)++b=fv (k+1) b from rfl,eb,show(zI.mk (prE x (k+1) (iter b0.toNat (sig (suf (exx D x m T) (k+1)) (lvl (exx D x m T) k)) (a++au))).x (prE x (k+1) (iter b0.toNat (sig (suf (exx D x m T) (k+1)) (lvl (exx D x m T) k)) (a++au))).v)=prE x (k+1) (iter b0.toNat (sig (suf (exx D x m T) (k+1)) (lvl (exx D x m T) k)) (a++au))from rfl,hg _ _ ew hB,bs,bs,bs,zG,bs,yJ hk,bs];have hm:=yU ok ew hB;show _=iW (prE x k (mul _ (a0::(a++au)) (b0::(b++bu))));rw[yQ,zC7 h hE hT hk]
 generalize mul (suf (exx D x m T) (k+1)) (iter b0.toNat (sig (suf (exx D x m T) (k+1)) (lvl (exx D x m T) k)) (a++au)) (b++bu)=r at hm ⊢
 have fin:∀(c:Int) w,V (suf (exx D x m T) (k+1)) w->((f_q (prE x (k+1) w).x).bind fun r22=>(ixO r22 (k:Int)).bind fun _=>iW (zI.mk (r22.set k c) (prE x (k+1) w).v))=iW (prE x k (c::w)):=fun c w hw=>by
  obtain⟨w1,w2,rfl,h1,h2,h3,h4⟩:=prV h hE hT (k:=k+1) (by omega) hw;have e3:prE x k (c::(w1++w2))=⟨fv k (c::w1),w2⟩:=by grind[jU]
  rw[h3,e3];dsimp only
  rw[own _ h1,bs,fv,<-zCN,zD9,bs,zEB]
 by_cases hge:a0+b0>=at0 x.zA k
 ·obtain⟨p1,p2⟩:=zLv h hE hT (k:=k) (j:=k) (Je k) hk
  change V (suf (exx D x m T) (k+1)) (lvl (exx D x m T) k).w at p2;rw[jc hge,zK,if_pos hge,bs,zG,bs,bs,p1,bs];have e4:=hg _ _ p2 hm;rw[show(((exx D x m T).zJ.getD k []).drop (k+1))=(lvl (exx D x m T) k).w from rfl,e4,bs]
  grind[yU]
 ·rw[jb hge,zM,if_neg hge]
  grind
theorem zFc:∀(d k:Nat),k+d=x.zA.length->(∀q,2*d+1<=q->zUx D x m0 m T k (zP2 q))/\(1<=d-> ∀q,2*d<=q->zUy D x m0 m T k (zP1 q))
 |0,k,hk=>by
  refine⟨fun q hq a b ha hb=>?_,fun h=>by omega⟩;have hn:=hE.hn;have hp:=hE.m.p.pos;obtain⟨q,rfl⟩:∃m',q=m'+1:=⟨q-1,by omega⟩;rw[zBx h hE hT D k (by omega) (by omega)]at ha hb ⊢
  have mb:=(zEF _ _).1 ha;have ez:=(zEF _ _).1 hb;show b_c _ _ ⟨x,m0,T⟩ k _ _=_;unfold b_c;have e:∀w:Vec,prE x k w=⟨zeros k,w⟩:=fun w=>by rw[prE,show x.zA.length-k=0 from by omega,Ki,Hq,fv,J9]
  rw[e,e,e];dsimp only
  rw[jc,zK,yP,bs,hM.pr,zUz h hE hT mb ez,bs,jS (by omega) D _ _ mb ez,show x.zA.length=k from by omega];rfl
 |d+1,k,hk=>by
  obtain⟨h1,h2⟩:=zFc d (k+1) (by omega);have hI:∀q,2*(d+1)<=q->zUy D x m0 m T k (zP1 q):=fun q hq=>by obtain⟨q,rfl⟩:∃m',q=m'+1:=⟨q-1,by omega⟩;exact zNl h hE hT hM (by omega) (h1 q (by omega))
  refine⟨fun q hq=>?_,fun _=>hI⟩;obtain⟨q,rfl⟩:∃m',q=m'+1:=⟨q-1,by omega⟩;exact zU0 h hE hT hM (by omega) (h1 q (by omega)) (hI q (by omega))
theorem zJd{k:Nat}(hk:k<=x.zA.length):zUx D x m0 m T k f_c:=fun a b ha hb=>
 zBA (2*(x.zA.length-k)+1) fun q hq=>(zFc h hE hT hM (x.zA.length-k) k (by omega)).1 q hq a b ha hb
theorem zBX{k:Nat}(hk:k<x.zA.length):zUy D x m0 m T k f_f:=fun v hv=>
 zBA (2*(x.zA.length-k)) fun q hq=>(zFc h hE hT hM (x.zA.length-k) k (by omega)).2 (by omega) q hq v hv
end
structure GR (p:Int) (D:Nat) (Z:Vec->Prop) (L:Mx) (N:Nat) (C:Prop):Prop where
 len:L.length<=N
 row:∀r∈L,Row p D r
 iff:(∀r∈L,Z r)↔C
theorem GR.nil{p:Int}{D N:Nat}{Z:Vec->Prop}:GR p D Z [] N True:=⟨by simp,by simp,by simp⟩
theorem GR.app{p:Int}{D N M:Nat}{Z:Vec->Prop}{L L':Mx}{C C':Prop}(h:GR p D Z L N C)(h':GR p D Z L' M C'):GR p D Z (L++L') (N+M) (C/\C'):=by
 refine⟨by have:=h.len;have:=h'.len;grind,fun r hr=>?_,?_⟩
 ·rcases Jf.1 hr with g|g
  ·exact h.row r g
  ·exact h'.row r g
 ·rw[<-h.iff,<-h'.iff]
  grind
theorem GR.one{p:Int}{D:Nat}{Z:Vec->Prop}{r:List Int}{C:Prop}(hr:Row p D r)(h:Z r↔C):GR p D Z [r] 1 C:=
 ⟨by simp,by grind,by grind⟩
theorem GR.to{p:Int}{D N M:Nat}{Z:Vec->Prop}{L:Mx}{C C':Prop}(h:GR p D Z L N C)(hN:N<=M)(hc:C↔C'):GR p D Z L M C':=⟨by have:=h.len;omega,h.row,h.iff.trans hc⟩
def c1E(e:SPr)(k j:Nat):Prop:=pw (mul (suf e (k+1))) (zeros (suf e (k+1)).length) ((lvl e k).cs.getD (j-(k+1)) []) (at0 e.zA j).toNat=sig (suf e (k+1)) (lvl e k) ((e.zJ.getD j []).drop (k+1))
def c2E(e:SPr)(k i j:Nat):Prop:=mul (suf e (k+1)) ((lvl e k).cs.getD (j-(k+1)) []) ((lvl e k).cs.getD (i-(k+1)) [])=mul (suf e (k+1)) ((lvl e k).cs.getD (i-(k+1)) []) (sig (suf e (k+1)) (lvl e k) (((e.zC.getD i []).getD (j-(i+1)) []).drop (k+1)))
def c4E(e:SPr)(k j:Nat):Prop:=mul (suf e (k+1)) (lvl e k).w (iter (lvl e k).o.toNat (sig (suf e (k+1)) (lvl e k)) (xE (e.zA.length-(k+1)) (j-(k+1))))=mul (suf e (k+1)) (xE (e.zA.length-(k+1)) (j-(k+1))) (lvl e k).w
def c1Q(Q:Nat->Vec->Vec->Prop)(e:SPr)(k j:Nat):Prop:=Q (k+1) (pw (mul (suf e (k+1))) (zeros (suf e (k+1)).length) ((lvl e k).cs.getD (j-(k+1)) []) (at0 e.zA j).toNat) (sig (suf e (k+1)) (lvl e k) ((e.zJ.getD j []).drop (k+1)))
def c2Q(Q:Nat->Vec->Vec->Prop)(e:SPr)(k i j:Nat):Prop:=Q (k+1) (mul (suf e (k+1)) ((lvl e k).cs.getD (j-(k+1)) []) ((lvl e k).cs.getD (i-(k+1)) [])) (mul (suf e (k+1)) ((lvl e k).cs.getD (i-(k+1)) []) (sig (suf e (k+1)) (lvl e k) (((e.zC.getD i []).getD (j-(i+1)) []).drop (k+1))))
def c4Q(Q:Nat->Vec->Vec->Prop)(e:SPr)(k j:Nat):Prop:=Q (k+1) (mul (suf e (k+1)) (lvl e k).w (iter (lvl e k).o.toNat (sig (suf e (k+1)) (lvl e k)) (xE (e.zA.length-(k+1)) (j-(k+1))))) (mul (suf e (k+1)) (xE (e.zA.length-(k+1)) (j-(k+1))) (lvl e k).w)
structure LCQ (Q:Nat->Vec->Vec->Prop) (x e:SPr) (k:Nat):Prop where
 c1:∀j,k+1<=j->j<x.zA.length->c1Q Q e k j
 c2:∀i,k+1<=i->i<x.zA.length-> ∀j,i+1<=j->j<x.zA.length->c2Q Q e k i j
 c3:Q (k+1) (sig (suf e (k+1)) (lvl e k) (lvl e k).w) (lvl e k).w
 c4:∀j,k+1<=j->j<x.zA.length->c4Q Q e k j
section
variable {D:Nat}{x:SPr}{m0 m:zB}{T:Mx} (h:Pres x) (hE:ExB x.zA.length D x m T) (hT:∀i,i<T.length->Row m.Prime D (T.getD i []))
 include h hE hT
theorem zDd{k:Nat}(hk:k<=x.zA.length){a b:Vec}(ha:V (suf (exx D x m T) k) a)(hb:V (suf (exx D x m T) k) b):(mul (suf (exx D x m T) k) a b).take (x.zA.length-k)=mul (suf x k) (a.take (x.zA.length-k)) (b.take (x.zA.length-k)):=by grind[zLt]
theorem zFd{k:Nat}(hk:k<x.zA.length){v:Vec}(hv:V (suf (exx D x m T) (k+1)) v):(sig (suf (exx D x m T) (k+1)) (lvl (exx D x m T) k) v).take (x.zA.length-(k+1))=sig (suf x (k+1)) (lvl x k) (v.take (x.zA.length-(k+1))):=
 by grind[zNk,zLt]
theorem zGH{k:Nat}(hk:k<x.zA.length){v:Vec}(hv:V (suf (exx D x m T) (k+1)) v):V (suf (exx D x m T) (k+1)) (sig (suf (exx D x m T) (k+1)) (lvl (exx D x m T) k) v):=by
 have gA:=uH h hE hT (k:=k) (by omega);rw[yC (x:=exx D x m T) (by grind[xW])]at gA
 grind[zD6]
theorem zLx{k:Nat}(hk:k<x.zA.length):∀(q:Nat){v:Vec},V (suf (exx D x m T) (k+1)) v->(iter q (sig (suf (exx D x m T) (k+1)) (lvl (exx D x m T) k)) v).take (x.zA.length-(k+1))=iter q (sig (suf x (k+1)) (lvl x k)) (v.take (x.zA.length-(k+1)))
 |0,_,_=>rfl
 |q+1,v,hv=>by have:=zLx hk q (zGH h hE hT hk hv);rw[zFd h hE hT hk hv]at this;exact this
theorem zYa{k:Nat}(hk:k<=x.zA.length):(zeros (suf (exx D x m T) k).length).take (x.zA.length-k)=zeros (suf x k).length:=by grind[zCg,zW,yK]
theorem yAg{k:Nat}(hk:k<=x.zA.length){c:Vec}(hc:V (suf (exx D x m T) k) c)(q:Nat):(pw (mul (suf (exx D x m T) k)) (zeros (suf (exx D x m T) k).length) c q).take (x.zA.length-k)=pw (mul (suf x k)) (zeros (suf x k).length) (c.take (x.zA.length-k)) q:=by have ok:=uH h hE hT (k:=k) (by omega);have:=zFP (S:=V (suf (exx D x m T) k)) (n:=mul (suf x k)) (·.take (x.zA.length-k)) (fun a b=>yU ok) (by grind[zDd]) [c] [(q:Int)] (zeros (suf (exx D x m T) k).length) (by grind) (wG ok);simp only[Js,Gy,img,J6]at this;rw[zYa h hE hT hk]at this;exact this
section
variable {k:Nat} (hk:k<x.zA.length)
 include hk
theorem zKx{j:Nat}(h1:k+1<=j)(h2:j<x.zA.length):((lvl (exx D x m T) k).cs.getD (j-(k+1)) []).take (x.zA.length-(k+1))=(lvl x k).cs.getD (j-(k+1)) []:=by rw[zJb h hE hT hk h1 h2,Jr (vC h (by omega) (zAU h hk h1 h2).2.2)]
theorem zJe{j:Nat}(h1:k<=j)(h2:j<x.zA.length):(((exx D x m T).zJ.getD j []).drop (k+1)).take (x.zA.length-(k+1))=(x.zJ.getD j []).drop (k+1):=by
 have t1:=(h.tl j h2).1.1.1
 grind[zFb]
theorem zU1{i j:Nat}(h1:k+1<=i)(h2:i<j)(h3:j<x.zA.length):((((exx D x m T).zC.getD i []).getD (j-(i+1)) []).drop (k+1)).take (x.zA.length-(k+1))=((x.zC.getD i []).getD (j-(i+1)) []).drop (k+1):=by rw[zGG h hE hT (by omega) h2 h3,Jr (vC h (by omega) (zTU h hk h1 h2 h3).2.2)]
theorem zU2{j:Nat}(h1:k+1<=j)(h2:j<x.zA.length):xE ((exx D x m T).zA.length-(k+1)) (j-(k+1))=xE (x.zA.length-(k+1)) (j-(k+1))++zeros D:=by
 rw[xW h hE hT,zBv,zBv,Jh,Kc]
 grind[zeros,Jl]
end
variable (hM:Mv D x.zA.length m0 m) {Z:Vec->Prop}{Q:Nat->Vec->Vec->Prop} (hZ:∀k,k<=x.zA.length-> ∀a b,V (suf (exx D x m T) k) a->V (suf (exx D x m T) k) b->a.take (x.zA.length-k)=b.take (x.zA.length-k)->(Z (wQ m.Prime D (a.drop (x.zA.length-k)) (-1) (b.drop (x.zA.length-k)))↔Q k a b))
 include hM hZ
theorem zLy{k:Nat}(hk:k<=x.zA.length){a b:Vec}(ha:V (suf (exx D x m T) k) a)(hb:V (suf (exx D x m T) k) b)(e:a.take (x.zA.length-k)=b.take (x.zA.length-k)):∃r,zNW ⟨x,m0,T⟩ (prE x k a) (prE x k b)=iW r/\Row m.Prime D r/\(Z r↔Q k a b):=by
 have h7:=hE.m.p.pos;have h3:=hE.m.d3;obtain⟨y,u,rfl,hy,hu,fX,ef⟩:=prV h hE hT hk ha;obtain⟨z,v,rfl,hz,hv,ut,cX⟩:=prV h hE hT hk hb;have mc:=hZ k hk _ _ ha hb e;rw[K4 ef,K4 cX]at mc;unfold zNW;rw[fX,ut];dsimp only
 rw[hM.pr,zG,bs,vJ hE.m.p hu hv (by omega) (by omega),bs,zCS];exact⟨_,rfl,uC hE.m.p,mc⟩
section
variable {k:Nat} (hk:k<x.zA.length) (hc:LC x k)
 include hk
 include hc
theorem yFo{j:Nat}(h1:k+1<=j)(h2:j<x.zA.length){L0 L:Mx}{N:Nat}{C:Prop}(hL:GR m.Prime D Z L N C)(hN:N<=1000){f:Mx->Option (Mx×Int⊕Mx)}:∃L',((zNV ⟨x,m0,T⟩).bind fun r2=>
  (zH (zSy ⟨x,m0,T⟩ (k:Int) (L0,(j:Int))) (r2.x,r2.v,0)).bind fun r8=>
  (zP0 ⟨x,m0,T⟩ (j:Int)).bind fun r9=>
  (f_f ⟨x,m0,T⟩ (k:Int) r9).bind fun r10=>
  (zNW ⟨x,m0,T⟩ (zI.mk r8.1 r8.2) r10).bind fun r11=>
  (yE L [r11]).bind f)=f L'/\GR m.Prime D Z L' (N+1) (C/\c1Q Q (exx D x m T) k j):=by
 have ok:=uH h hE hT (k:=k+1) (by omega);have hn:=hE.hn;have hp:=(h.os.2 j h2).pos;have hz:=wG ok;obtain⟨c1,c2⟩:=zFR h hE hT (k:=k) (j:=j) (by omega) h2;obtain⟨p1,p2⟩:=zLv h hE hT (k:=k) (j:=j) (by omega) h2;have hA:=zJd h hE hT hM (k:=k+1) (by omega);have hI:=zBX h hE hT hM hk;have iv:zH (zSy ⟨x,m0,T⟩ (k:Int) (L0,(j:Int))) ((prE x (k+1) (zeros (suf (exx D x m T) (k+1)).length)).x,(prE x (k+1) (zeros (suf (exx D x m T) (k+1)).length)).v,0)=iW ((prE x (k+1) (pw (mul (suf (exx D x m T) (k+1))) (zeros (suf (exx D x m T) (k+1)).length) ((lvl (exx D x m T) k).cs.getD (j-(k+1)) []) (at0 x.zA j).toNat)).x,(prE x (k+1) (pw (mul (suf (exx D x m T) (k+1))) (zeros (suf (exx D x m T) (k+1)).length) ((lvl (exx D x m T) k).cs.getD (j-(k+1)) []) (at0 x.zA j).toNat)).v):=
  zDc (S:=V (suf (exx D x m T) (k+1))) (fun w=>(prE x (k+1) w).x) (fun w=>(prE x (k+1) w).v) (fun w=>mul (suf (exx D x m T) (k+1)) w ((lvl (exx D x m T) k).cs.getD (j-(k+1)) [])) (at0 x.zA j) (by omega) (by grind[yU]) (fun w q hw hq=>by
   unfold zSy;dsimp only
   rw[yJ h2,bs,jc hq,zK,zG,bs,c1,bs,cs,show(zI.mk (prE x (k+1) w).x (prE x (k+1) w).v)=prE x (k+1) w from rfl,hA w _ hw c2,bs,zG,bs,cs]) (fun w hw=>by
   simp_all[zSy,yJ]) hz
 have uq:V (suf (exx D x m T) (k+1)) (pw (mul (suf (exx D x m T) (k+1))) (zeros (suf (exx D x m T) (k+1)).length) ((lvl (exx D x m T) k).cs.getD (j-(k+1)) []) (at0 x.zA j).toNat):=vS (by grind[yU]) _ hz;obtain⟨r,r1,r2,r3⟩:=zLy h hE hT hM hZ (k:=k+1) (by omega) uq (zGH h hE hT hk p2) (by rw[yAg h hE hT (by omega) c2,zFd h hE hT hk p2,zKx h hE hT hk h1 h2,zJe h hE hT hk (by omega) h2];exact hc.c1 j h1 h2)
 have bK:=hL.len;refine⟨L++[r],?_,hL.app (GR.one r2 (r3.trans ?_))⟩
 ·rw[zLw h hE hT (k:=k+1) (by omega) (by omega),bs,iv,bs,p1,bs,hI _ p2,bs]
  dsimp only
  rw[r1,bs,zX (by simp;omega),bs]
 ·unfold c1Q;rw[tI h hE hT h2]
theorem yFp{j:Nat}(h1:k+1<=j)(h2:j<x.zA.length){L0 L:Mx}{N:Nat}{C:Prop}(hL:GR m.Prime D Z L N C)(hN:N<=1000):∃L',zH (zSz ⟨x,m0,T⟩ (k:Int) (L0,(j:Int))) (L,((j+1:Nat):Int))=iW L'/\GR m.Prime D Z L' (N+(x.zA.length-(j+1))) (C/\ ∀j2,j+1<=j2->j2<x.zA.length->c2Q Q (exx D x m T) k j j2):=by
 have ok:=uH h hE hT (k:=k+1) (by omega);have hn:=hE.hn;have hA:=zJd h hE hT hM (k:=k+1) (by omega);have hI:=zBX h hE hT hM hk;refine uU (fun i(s:Mx×Int)=>s.2=((j+1+i:Nat):Int)/\GR m.Prime D Z s.1 (N+i) (C/\ ∀j2,j+1<=j2->j2<j+1+i->c2Q Q (exx D x m T) k j j2)) (x.zA.length-(j+1)) (fun i s hi ⟨hs,hg⟩=>?_) (fun s ⟨hs,hg⟩=>?_) ⟨rfl,hL.to (by omega) (by grind)⟩
 ·left
  obtain⟨L1,s2⟩:=s;dsimp only at hs hg;subst hs;have g2:j+1+i<x.zA.length:=by omega
  obtain⟨a1,a2⟩:=zFR h hE hT (k:=k) (j:=j) (by omega) h2;obtain⟨b1,b2⟩:=zFR h hE hT (k:=k) (j:=j+1+i) (by omega) g2;obtain⟨d1,d2⟩:=zQI h hE hT (k:=k) (i:=j) (j:=j+1+i) (by omega) (by omega) g2;have hs:=zGH h hE hT hk d2;obtain⟨r,r1,r2,r3⟩:=zLy h hE hT hM hZ (k:=k+1) (by omega) (yU ok b2 a2) (yU ok a2 hs) (by rw[zDd h hE hT (by omega) b2 a2,zDd h hE hT (by omega) a2 hs,zFd h hE hT hk d2,zKx h hE hT hk h1 h2,zKx h hE hT hk (by omega) g2,zU1 h hE hT hk h1 (by omega) g2];exact hc.c2 j h1 h2 (j+1+i) (by omega) g2)
  have bK:=hg.len;refine⟨(L1++[r],((j+1+i+1:Nat):Int)),?_,rfl,(hg.app (GR.one r2 r3)).to (by omega) ?_⟩
  ·unfold zSz
   dsimp only
   rw[jc,zK,a1,bs,b1,bs,d1,bs,hI _ d2,bs,zG,bs,cs,hA _ _ b2 a2,bs,bs,hA _ _ a2 hs,bs,r1,bs,zX (by simp;omega),bs,zG,bs,cs]
  ·constructor
   ·rintro⟨⟨g1,g3⟩,g4⟩
    refine⟨g1,fun j2 e1 e2=>?_⟩;rcases Jk j2 (j+1+i)with e|e
    ·grind
    ·obtain rfl:j2=j+1+i:=by omega
     exact g4
   ·rintro⟨g1,g3⟩
    exact⟨by grind,g3 (j+1+i) (by omega) (by omega)⟩
 ·obtain⟨L1,s2⟩:=s
  dsimp only at hs hg;subst hs;refine⟨L1,?_,hg.to (Je _) ?_⟩
  ·unfold zSz
   grind
  grind
theorem yFq:∃L',zH (zWk ⟨x,m0,T⟩ (k:Int)) ([],((k+1:Nat):Int))=iW L'/\GR m.Prime D Z L' 100 (∀j,k+1<=j->j<x.zA.length->c1Q Q (exx D x m T) k j/\ ∀j2,j+1<=j2->j2<x.zA.length->c2Q Q (exx D x m T) k j j2):=by
 have hn:=hE.hn;refine uU (fun i(s:Mx×Int)=>s.2=((k+1+i:Nat):Int)/\GR m.Prime D Z s.1 (7*i) (∀j,k+1<=j->j<k+1+i->c1Q Q (exx D x m T) k j/\ ∀j2,j+1<=j2->j2<x.zA.length->c2Q Q (exx D x m T) k j j2)) (x.zA.length-(k+1)) (fun i s hi ⟨hs,hg⟩=>?_) (fun s ⟨hs,hg⟩=>?_) ⟨rfl,(GR.nil (N:=0)).to (by omega) (by grind)⟩
 ·left
  obtain⟨L1,s2⟩:=s;dsimp only at hs hg;subst hs;have g2:k+1+i<x.zA.length:=by omega
  obtain⟨L2,e2,hg2⟩:=yFo h hE hT hM hZ hk hc (j:=k+1+i) (by omega) g2 (L0:=L1) hg (by omega) (f:=fun v12=>(rng (((k+1+i:Nat):Int)+1)).bind fun v13=>
   (zH (zSz ⟨x,m0,T⟩ (k:Int) (L1,((k+1+i:Nat):Int))) (v12,v13)).bind fun r25=>
   (rng (((k+1+i:Nat):Int)+1)).bind fun v26=>iW (.inl (r25,v26)))
  obtain⟨L3,e3,hg3⟩:=yFp h hE hT hM hZ hk hc (j:=k+1+i) (by omega) g2 (L0:=L1) hg2 (by omega);refine⟨(L3,((k+1+i+1:Nat):Int)),?_,rfl,hg3.to (by omega) ?_⟩
  ·unfold zWk
   dsimp only
   rw[jc,zK,e2,zG,bs,cs,e3,bs,bs]
  grind
 ·obtain⟨L1,s2⟩:=s
  dsimp only at hs hg;subst hs;refine⟨L1,?_,hg.to (by omega) ?_⟩
  ·unfold zWk
   grind
  grind
theorem zU3{j:Nat}(h1:k+1<=j)(h2:j<x.zA.length):∃r,zNV ⟨x,m0,T⟩=iW r/\ixO r.x (j:Int)=iW 0/\r.x.set j 1=(prE x (k+1) (xE (x.zA.length-(k+1)) (j-(k+1))++zeros D)).x/\r.v=(prE x (k+1) (xE (x.zA.length-(k+1)) (j-(k+1))++zeros D)).v:=by
 have _:=hM;have _:=hZ;have _:=hc;have hn:=hE.hn;have eQ:(xE (x.zA.length-(k+1)) (j-(k+1))).length=x.zA.length-(k+1):=by rw[zAY,zU]
 refine⟨_,zLw h hE hT (k:=k+1) (by omega) (by omega),?_,?_,?_⟩
 ·rw[zCg h hE hT (by omega),jU (zW _)]
  dsimp only
  simp only[fv,zeros,Jl];rw[uG,Km,if_pos (by omega)]
 ·rw[zCg h hE hT (by omega),jU (zW _),jU eQ]
  dsimp only
  have e1:fv (k+1) (zeros (x.zA.length-(k+1)))=zeros j++0::zeros (x.zA.length-(k+1)-(j-(k+1)+1)):=by
   simp only[fv,zeros];rw[<-Jt,Jl,Jl]
   grind
  rw[e1,zEB,fv,zBv,<-Jh]
  grind[zeros,Jl]
 grind[zCg,jU,zW]
theorem yFr{L:Mx}{N:Nat}{C:Prop}(hL:GR m.Prime D Z L N C)(hN:N<=1000):∃L',zH (zS0 ⟨x,m0,T⟩ (k:Int) (prE x (k+1) (((exx D x m T).zJ.getD k []).drop (k+1)))) (L,((k+1:Nat):Int))=iW L'/\GR m.Prime D Z L' (N+(x.zA.length-(k+1))) (C/\ ∀j,k+1<=j->j<x.zA.length->c4Q Q (exx D x m T) k j):=by
 have hn:=hE.hn;have hpk:=(h.os.2 k hk).pos;have h7:=hE.m.p.pos;have ok:=uH h hE hT (k:=k+1) (by omega);have hA:=zJd h hE hT hM (k:=k+1) (by omega);have hI:=zBX h hE hT hM hk;obtain⟨p1,p2⟩:=zLv (m0:=m0) h hE hT (k:=k) (j:=k) (Je k) hk;change V (suf (exx D x m T) (k+1)) (lvl (exx D x m T) k).w at p2;change∃L',zH (zS0 ⟨x,m0,T⟩ (k:Int) (prE x (k+1) (lvl (exx D x m T) k).w)) (L,((k+1:Nat):Int))=iW L'/\_;have dP:(lvl (exx D x m T) k).w.take (x.zA.length-(k+1))=(lvl x k).w:=zJe h hE hT hk (Je k) hk;have ho:(lvl (exx D x m T) k).o=at0 x.zA k:=zC7 h hE hT hk;refine uU (fun i(s:Mx×Int)=>s.2=((k+1+i:Nat):Int)/\GR m.Prime D Z s.1 (N+i) (C/\ ∀j,k+1<=j->j<k+1+i->c4Q Q (exx D x m T) k j)) (x.zA.length-(k+1)) (fun i s hi ⟨hs,hg⟩=>?_) (fun s ⟨hs,hg⟩=>?_) ⟨rfl,hL.to (by omega) (by grind)⟩
 ·left
  obtain⟨L1,s2⟩:=s;dsimp only at hs hg;subst hs;have g2:k+1+i<x.zA.length:=by omega
  obtain⟨r33,z1,z2,z3,z4⟩:=zU3 h hE hT hM hZ hk hc (j:=k+1+i) (by omega) g2;have hue:=zU2 h hE hT hk (j:=k+1+i) (by omega) g2;have hux:V (suf x (k+1)) (xE (x.zA.length-(k+1)) (k+1+i-(k+1))):=by
   have:=zD5 (h.okAt (k:=k+1) (by omega)) (j:=k+1+i-(k+1)) (by grind[yK])
   grind[yK]
  have eQ:=vC h (by omega) hux;have bz:V (suf (exx D x m T) (k+1)) (xE (x.zA.length-(k+1)) (k+1+i-(k+1))++zeros D):=(sV h hE hT (x.zA.length-(k+1)) (k+1) (by omega) _).2 ⟨_,_,rfl,hux,xD⟩;have ew:V (suf (exx D x m T) (k+1)) (iter (at0 x.zA k).toNat (sig (suf (exx D x m T) (k+1)) (lvl (exx D x m T) k)) (xE (x.zA.length-(k+1)) (k+1+i-(k+1))++zeros D)):=vS (fun w hw=>zGH h hE hT hk hw) _ bz;have iv:zH (zWl ⟨x,m0,T⟩ (k:Int)) ((prE x (k+1) (xE (x.zA.length-(k+1)) (k+1+i-(k+1))++zeros D)).x,(prE x (k+1) (xE (x.zA.length-(k+1)) (k+1+i-(k+1))++zeros D)).v,0)=iW ((prE x (k+1) (iter (at0 x.zA k).toNat (sig (suf (exx D x m T) (k+1)) (lvl (exx D x m T) k)) (xE (x.zA.length-(k+1)) (k+1+i-(k+1))++zeros D))).x,(prE x (k+1) (iter (at0 x.zA k).toNat (sig (suf (exx D x m T) (k+1)) (lvl (exx D x m T) k)) (xE (x.zA.length-(k+1)) (k+1+i-(k+1))++zeros D))).v):=
   zDc (S:=V (suf (exx D x m T) (k+1))) (fun w=>(prE x (k+1) w).x) (fun w=>(prE x (k+1) w).v) (sig (suf (exx D x m T) (k+1)) (lvl (exx D x m T) k)) (at0 x.zA k) (by omega) (fun w hw=>zGH h hE hT hk hw) (fun w q hw hq=>by
    unfold zWl;dsimp only
    rw[yJ hk,bs,jc hq,zK,show(zI.mk (prE x (k+1) w).x (prE x (k+1) w).v)=prE x (k+1) w from rfl,hI w hw,bs,zG,bs,cs]) (fun w hw=>by
    simp_all[zWl,yJ]) bz
  obtain⟨r,r1,r2,r3⟩:=zLy h hE hT hM hZ (k:=k+1) (by omega) (yU ok p2 ew) (yU ok bz p2) (by rw[zDd h hE hT (by omega) p2 ew,zDd h hE hT (by omega) bz p2,zLx h hE hT hk _ bz,dP,Jr eQ];exact hc.c4 (k+1+i) (by omega) g2)
  have bK:=hg.len;refine⟨(L1++[r],((k+1+i+1:Nat):Int)),?_,rfl,(hg.app (GR.one r2 r3)).to (by omega) ?_⟩
  ·unfold zS0
   dsimp only
   rw[jc,zK,z1,bs,z2,bs,J6,z3,z4,iv,bs,zG,bs,cs];dsimp only
   have e1:=hA _ _ p2 ew;have e2:=hA _ _ bz p2;rw[show∀w,(zI.mk (prE x (k+1) w).x (prE x (k+1) w).v)=prE x (k+1) w from fun _=>rfl,show∀w,(zI.mk (prE x (k+1) w).x (prE x (k+1) w).v)=prE x (k+1) w from fun _=>rfl,e1,bs,bs,e2,bs,r1,bs,zX (by simp;omega),bs,zG,bs,cs]
  ·have e4:c4Q Q (exx D x m T) k (k+1+i)↔Q (k+1) (mul (suf (exx D x m T) (k+1)) (lvl (exx D x m T) k).w (iter (at0 x.zA k).toNat (sig (suf (exx D x m T) (k+1)) (lvl (exx D x m T) k)) (xE (x.zA.length-(k+1)) (k+1+i-(k+1))++zeros D))) (mul (suf (exx D x m T) (k+1)) (xE (x.zA.length-(k+1)) (k+1+i-(k+1))++zeros D) (lvl (exx D x m T) k).w):=by
    grind[c4Q]
   rw[<-e4];constructor
   ·grind
   grind
 ·obtain⟨L1,s2⟩:=s
  dsimp only at hs hg;subst hs;refine⟨L1,?_,hg.to (Je _) ?_⟩
  ·unfold zS0
   grind
  grind
theorem yBG:∃L,f_o ⟨x,m0,T⟩ (k:Int)=iW L/\GR m.Prime D Z L 120 (LCQ Q x (exx D x m T) k):=by
 have hn:=hE.hn;have hI:=zBX h hE hT hM hk;obtain⟨p1,p2⟩:=zLv h hE hT (k:=k) (j:=k) (Je k) hk;obtain⟨L1,e1,g1⟩:=yFq h hE hT hM hZ hk hc;have hs:=zGH h hE hT hk p2;obtain⟨r,r1,r2,r3⟩:=zLy h hE hT hM hZ (k:=k+1) (by omega) hs p2 (by rw[zFd h hE hT hk p2,zJe h hE hT hk (Je k) hk];exact hc.c3)
 obtain⟨L2,e2,g2⟩:=yFr h hE hT hM hZ hk hc (g1.app (GR.one r2 r3)) (by omega);have bK:=g1.len;refine⟨L2,?_,g2.to (by omega) ?_⟩
 ·unfold f_o
  rw[zG,bs,cs,e1,bs,p1,bs,hI _ p2,bs,r1,bs,zX (by simp;omega),bs,bs,e2,bs]
 ·constructor
  ·rintro⟨⟨a1,a2⟩,a3⟩
   exact⟨by grind,by grind,a2,a3⟩
  ·intro a
   exact⟨⟨fun j b1 b2=>⟨a.c1 j b1 b2,fun j2 b3 b4=>a.c2 j b1 b2 j2 b3 b4⟩,a.c3⟩,a.c4⟩
end
theorem zU4(hx:xU (suf x 0)):∃L,zJC ⟨x,m0,T⟩=iW L/\GR m.Prime D Z L 1000 (∀k,k<x.zA.length->LCQ Q x (exx D x m T) k):=by
 have hn:=hE.hn;have h3:=hE.m.d3;have cK:∀k,k<x.zA.length->LC x k:=fun k hk=>((qZ h.w hk).1 (zAt hx k)).2
 obtain⟨L,e,g⟩:=uU (body:=zK6 ⟨x,m0,T⟩) (Q:=fun L=>GR m.Prime D Z L 1000 (∀k,k<x.zA.length->LCQ Q x (exx D x m T) k)) (fun i(s:Mx×Int)=>s.2=(i:Int)/\GR m.Prime D Z s.1 (120*i) (∀k,k<i->LCQ Q x (exx D x m T) k)) x.zA.length (fun i s hi ⟨hs,hg⟩=>by
  left;obtain⟨L1,s2⟩:=s;dsimp only at hs hg;subst hs;obtain⟨L2,e2,g2⟩:=yBG h hE hT hM hZ hi (cK i hi);have l1:=hg.len;have l2:=g2.len;refine⟨(L1++L2,((i+1:Nat):Int)),?_,rfl,(hg.app g2).to (by omega) ?_⟩
  ·unfold zK6
   dsimp only
   rw[yN hi,zK,e2,bs,zX,bs,zG,bs,cs]
  grind) (fun s ⟨hs,hg⟩=>by
  obtain⟨L1,s2⟩:=s;dsimp only at hs hg;subst hs;refine⟨L1,?_,hg.to (by omega) Iff.rfl⟩
  simp_all[zK6]) (s:=([],0)) ⟨rfl,(GR.nil (N:=0)).to (by omega) (by simp)⟩
 grind[zJC]
end
section
variable {D:Nat}{x:SPr}{m0 m:zB}{T:Mx} (h:Pres x) (hE:ExB x.zA.length D x m T) (hT:∀i,i<T.length->Row m.Prime D (T.getD i [])) (hM:Mv D x.zA.length m0 m)
 include h hE hT hM
theorem zLz(hx:xU (suf x 0))(hr:zC3 x m D):IsB (zS1 x m0 T) (xU (suf (exx D x m T) 0)):=by
 have hn:=hE.hn;have h3:=hE.m.d3;have hp:=hE.m.p.pos;obtain⟨L,e,g⟩:=zU4 h hE hT hM (Z:=fun r=>r=zeros D) (Q:=fun _ a b=>a=b) (fun k hk a b ha hb e=>by
  obtain⟨y,u,rfl,hy,hu,_,ef⟩:=prV h hE hT hk ha;obtain⟨z,v,rfl,hz,hv,_,cX⟩:=prV h hE hT hk hb;rw[Jr ef,Jr cX]at e;subst e;rw[K4 ef,K4 ef,List.append_cancel_left_eq,<-zRM (p:=m.Prime) hu hv];constructor
  ·grind[vG]
  ·intro g
   rw[wI (zFC (p:=m.Prime) (r:=u) (s:=v) (k:=-1)),show zeros D=mkv D fun _=>0 from uB D]
   grind[zV]) hx
 have bK:=g.len;unfold zS1;rw[e,bs];refine(qS (body:=zNX L) L.length (fun i=> ∀j,j<(L.getD i []).length->at0 (L.getD i []) j=0) rfl (fun i hi _=>?_) ?_).iff ?_
 ·have gX:=g.row (L.getD i []) (by grind)
  unfold zNX;rw[yN hi,zK,zY [] hi,bs];rcases zAv (v:=L.getD i []) (by rw[gX.1];omega)with⟨z1,z2⟩|⟨z1,z2⟩
  ·left
   rw[z1,bs,Jq,zM,zG,bs,cs]
   grind
  grind
 ·simp_all[zNX]
 ·rw[zLu h hE hT hr,show(∀k,k<x.zA.length->LCn x (exx D x m T) k)↔(∀k,k<x.zA.length->LCQ (fun _ a b=>a=b) x (exx D x m T) k)from⟨fun a k hk=>⟨(a k hk).c1,(a k hk).c2,(a k hk).c3,(a k hk).c4⟩,fun a k hk=>⟨(a k hk).c1,(a k hk).c2,(a k hk).c3,(a k hk).c4⟩⟩,<-g.iff]
  constructor
  ·intro a r hr
   obtain⟨i,hi,rfl⟩:=Jz.1 hr;have a:=a i hi;rw[J2,J5 hi]at a;have gX:=g.row _ hr;rw[wI gX.1,show zeros D=mkv D fun _=>0 from uB D]
   grind
  grind[K3,vG]
end
theorem zE1{x:SPr}(h:Pres x):∃s:Nat,zSt x=iW (s:Int)/\(s=0↔xU (suf x 0)):=by
 have h6:=h.os.1;unfold zSt;obtain⟨r,r1,r2⟩:=uU (body:=zHs x) (Q:=fun r=> ∃s:Nat,r=(s:Int)/\xU (suf x s)/\(s=0\/ ¬xU (suf x (s-1)))) (fun i s=>i<=x.zA.length/\s=((x.zA.length-i:Nat):Int)/\xU (suf x (x.zA.length-i))) x.zA.length (fun i s hi ⟨_,hs,gY⟩=>by
   subst hs;have hk:x.zA.length-i-1<x.zA.length:=by omega
   have e9:x.zA.length-(i+1)=x.zA.length-i-1:=by omega
   rw[e9];have e8:i+1<=x.zA.length:=by omega
   rw[show x.zA.length-i=x.zA.length-i-1+1 from by omega]at gY ⊢
   have px:=zIC h hk gY;have pA:=qZ h.w hk
   generalize x.zA.length-i-1=k at*
   unfold zHs;rw[jc,zK,zG,bs,show(((k+1:Nat):Int)-1)=(k:Int)from by omega];rcases px with⟨g1,g2⟩|⟨r,g1,g2,g3⟩
   ·simp_all
   grind) (fun s ⟨_,hs,gY⟩=>by
   rw[Kx]at hs gY;subst hs;unfold zHs
   grind) (s:=(x.zA.length:Int)) ⟨by omega,by rfl,by rw[Uo,vN];simp only[xU]⟩
 obtain⟨s,rfl,gY,hs⟩:=r2;rw[r1,bs];refine⟨s,rfl,by grind,fun g=>?_⟩
 grind[zAt]
section
variable {x:SPr}{m:zB}{T:Mx}{D:Nat} (hx:sJ x) (hm:MOk x.zA.length m D) (hT:T.length<=1048576)
 include hx hm hT
def sC(x:SPr)(m:zB)(D:Nat)(T:Mx):Prop:=T.length=base x.zA.length x.zA.length/\yEi m D T
theorem kR:IsB (zPz x m T) (sC x m D T):=by
 have h6:=hx.n6;unfold zPz;rw[zCV rfl h6,bs]
 by_cases g:T.length=base x.zA.length x.zA.length
 ·rw[show((T.length:Int)==((base x.zA.length x.zA.length:Nat):Int))=iZ from by simp[g],zK]
  exact(IsB.b (zLr hm (by omega) hT)).iff ⟨fun q=>⟨g,q⟩,fun q=>q.2⟩
 ·rw[show((T.length:Int)==((base x.zA.length x.zA.length:Nat):Int))=ja from by simp;omega,zM]
  exact .inr ⟨rfl,fun q=>g q.1⟩
theorem zNm:IsB (zYB x m T) (sC x m D T):=by
 have h6:=hx.n6;have h3:=hm.d3;unfold zYB;rw[zIQ rfl h6,bs]
 by_cases g:T.length=base x.zA.length x.zA.length
 ·rw[show((T.length:Int)==((base x.zA.length x.zA.length:Nat):Int))=iZ from by simp[g],zK]
  exact(IsB.b (zRN hm.p hm.d (by omega) hT)).iff ⟨fun q=>⟨g,q⟩,fun q=>q.2⟩
 ·rw[show((T.length:Int)==((base x.zA.length x.zA.length:Nat):Int))=ja from by simp;omega,zM]
  exact .inr ⟨rfl,fun q=>g q.1⟩
 omit hT in
theorem zRY(ht:sC x m D T):zLq x.zA.length D x m T:=by
  have h3:=hm.d3;exact zLq.of hx hm ht.1 (zON fun i hi=>by have:=(ht.2 i hi).1;omega)
 omit hT in
theorem zYb(ht:sC x m D T):IsB (zYC x m T) (xU (suf (exx D x m T) 0)):=by
  have hE:=zRY hx hm ht;unfold zYC;rw[zUh hE,bs];obtain⟨s,s1,s2⟩:=zE1 ((zEq hx.toPres (hE.b hm) ht.2).p (by rw[xW hx.toPres (hE.b hm) ht.2];have:=hm.d3;have:=hE.hn;omega))
  grind[IsB.of_bool]
end
def Coc(x:SPr)(m:zB)(D:Nat)(T:Mx):Prop:=sC x m D T/\xU (suf (exx D x m T) 0)
section
variable {x:SPr}{m:zB}{A B:Mx}{L:List Mx}
theorem zKy(hx:yAd x)(hm:yBw m)(hA:A.length<=1048576)(hB:B.length<=1048576)(hl:L.length<=1000)(hL:∀t,t∈L↔t=A\/t=B):∃c:Int,zJD x m A B=iW c/\f_S x m L=iW c/\(c=0->zBB x/\ ∃D,MOk x.zA.length m D/\zC3 x m D/\Coc x m D A/\Coc x m D B):=by
 have pG:x.zA.length<=1048576:=hx.1;have iq:=S3.len hm;unfold zJD f_S;rcases(zCf (m:=m) pG).both (zEE (m:=m) pG iq)with⟨s1,i1,hM⟩|⟨s1,i1,hM⟩
 ·obtain⟨hc,D,hD,hr⟩:=hM
  have gu:∀i,i<L.length->L.getD i []=A\/L.getD i []=B:=by grind[K3]
  have gn:∀i,i<L.length->(L.getD i []).length<=1048576:=by grind
  have fM:∀(P:Mx->Prop),(∀i,0<=i->i<L.length->P (L.getD i []))↔P A/\P B:=fun P=>by
   constructor
   ·intro g
    have key:∀t,t∈L->P t:=fun t ht=>by
     obtain⟨i,hi,rfl⟩:=Jz.1 ht
     grind
    grind
   grind
  have eW:∀i:Nat,i<L.length->((i:Nat):Int)<(L.length:Int):=fun i hi=>by omega
  simp only[s1,i1,bs,Jq,zM];have c1:=chk (body:=zWt x m L) L.length 0 (Kg _) (fun i=>sC x m D (L.getD i [])) (fun _=>(1:Int)) (fun i _ hi _=>by
   unfold zWt;rw[yN hi,zK,zY [] hi,bs];rcases zNm hc.2.2 hD (gn i hi)with⟨z1,z2⟩|⟨z1,z2⟩
   ·left
    rw[z1,bs,Jq,zM,zG,bs,cs]
    grind
   grind) (by
   unfold zWt;simp)
  rw[show((0:Nat):Int)=0 from rfl]at c1;have hAB:(∀i,0<=i->i<L.length->sC x m D (L.getD i []))↔_:=fM (sC x m D);rcases c1 with⟨c1,c2⟩|⟨i,_,hi,c1,c2⟩
  ·obtain⟨tA,tB⟩:=hAB.1 c2
   rw[c1,bs];simp only
   rcases kR hc.2.2 hD hA with⟨z1,_⟩|⟨_,z2⟩
   rcases kR hc.2.2 hD hB with⟨y1,_⟩|⟨_,y2⟩
   ·simp only[z1,y1,bs,Jq,zM]
    have c3:=chk (body:=zWu x m L) L.length 0 (Kg _) (fun i=>xU (suf (exx D x m (L.getD i [])) 0)) (fun _=>(5:Int)) (fun i _ hi _=>by
     unfold zWu;rw[yN hi,zK,zY [] hi,bs];rcases zYb hc.2.2 hD (c2 i (Kg _) hi)with⟨z1,z2⟩|⟨z1,z2⟩
     ·left
      rw[z1,bs,Jq,zM,zG,bs,cs]
      grind
     grind) (by
     unfold zWu;simp)
    rw[show((0:Nat):Int)=0 from rfl]at c3;have hCC:(∀i,0<=i->i<L.length->xU (suf (exx D x m (L.getD i [])) 0))↔_:=fM (fun t=>xU (suf (exx D x m t) 0));have sA:=zLz hc.1 ((zRY hc.2.2 hD tA).b hD) tA.2 (Mv.self hD) hc.2.1 hr;have sB:=zLz hc.1 ((zRY hc.2.2 hD tB).b hD) tB.2 (Mv.self hD) hc.2.1 hr;rcases c3 with⟨c3,c4⟩|⟨i,_,hi,c3,c4⟩
    ·obtain⟨kA,kB⟩:=hCC.1 c4
     rcases sA with⟨z3,_⟩|⟨_,z3⟩
     rcases sB with⟨y3,_⟩|⟨_,y3⟩
     ·rw[z3,bs,Jq,zM,y3,bs,Jq,zM,c3,bs]
      exact⟨0,rfl,rfl,fun _=>⟨hc,D,hD,hr,⟨tA,kA⟩,tB,kB⟩⟩
     all_goals grind
    ·rw[c3,bs]
     refine⟨5,?_,rfl,by simp⟩;rcases sA with⟨z3,z4⟩|⟨z3,z4⟩
     ·rcases sB with⟨y3,y4⟩|⟨y3,y4⟩
      all_goals grind
     grind
   all_goals grind
  ·rw[c1,bs]
   refine⟨1,?_,rfl,by simp⟩;rcases kR hc.2.2 hD hA with⟨z1,z2⟩|⟨z1,z2⟩
   ·rcases kR hc.2.2 hD hB with⟨y1,y2⟩|⟨y1,y2⟩
    all_goals grind
   grind
 simp_all
end
theorem zDP{x:SPr}(h:Pres x)(_:x.zA.length<=6):(xL x).length=base x.zA.length x.zA.length:=by grind[zRT,base]
abbrev qO(x:SPr)(m:zB)(D:Nat):Mx:=zKv (x.zA.length*D) (fun k=>dfc m D (uv x.zA.length D k)) (xL x)
section
variable {x:SPr}{m:zB}{D:Nat} (hx:sJ x) (hD:MOk x.zA.length m D)
 include hx hD
theorem zOX:∃R pv,zP3 x m=iW R/\zS3 x m=iW (qO x m D)/\f_i m.Prime (qO x m D)=iW R/\Red m.Prime (base x.zA.length x.zA.length*D) R pv/\R.length<=63/\base x.zA.length x.zA.length*D<=63:=by have h6:=hx.n6;have h3:=hD.d3;have hb:=xY x.zA.length (by omega);have hl:=zDP hx.toPres h6;have fQ:x.zA.length*D<=6*3:=Jp h6 h3;have bE:base x.zA.length x.zA.length*D<=21*3:=Jp hb.2.1 h3;have fP:(qO x m D).length=x.zA.length*D:=xI;obtain⟨R,pv,r1,r2,r3,_⟩:=zAW hD.p (n:=(xL x).length*D) (by grind) (rows:=qO x m D) (by omega) (by rw[fP];exact zGD (zOQ hx.toPres hD) (xL x));rw[hl]at r3;have hR:=r3.len_le;refine⟨R,pv,?_,zDm hx.toPres hD,r2,r3,by omega,bE⟩;unfold zP3;rw[zHp hx.toPres hD,bs,r1,bs]
theorem tD{T:Mx}(ht:sC x m D T):Row m.Prime (base x.zA.length x.zA.length*D) T.flatten/\f_M T=iW T.flatten/\f_z T=iW T.flatten:=by
 have h6:=hx.n6;have h3:=hD.d3;have hb:=xY x.zA.length (by omega);have bE:base x.zA.length x.zA.length*D<=21*3:=Jp hb.2.1 h3;have h:=zUf (p:=m.Prime) (D:=D) (xs:=T) fun r hr=>by
  obtain⟨i,hi,rfl⟩:=Jz.1 hr;have:=ht.2 i hi
  grind
 rw[ht.1]at h;have hl:=ht.1;exact⟨h,zKq (by omega) (by rw[h.1];omega),kO (by omega) (by rw[h.1];omega)⟩
end
section
variable {p:Int} (hp:Prime p) {c N:Nat} (gG:c+N<=100000) {A:Mx}
 include hp gG
theorem zU5(hr:∀i,i<N->Row p c (A.getD i []))(hl:A.length=N){b:List Int}(hb:Row p c b){r:List Int}{ok:Bool}(q:zS4 p A (c:Int) b=iW (r,ok)):ok=iZ↔Sp p c A b:=by
 have h7:=hp.pos;obtain⟨W,pv,t,h,h2,h3⟩:=Nul.get hp gG hr hl;have hy:=zIU hp gG h hb t;have hlr:=zXW (by omega) h.row h.red h.sp h.le h.lo h.hi;have hls:=yB8 (by omega) h.row h.red h.sp h.le h.lo h.hi h.len;have bK:(lft c t W).length=t:=xI;have e:∀i,i<=t->(sy p c N W pv b i).take c=cl p c (lft c t W) pv b i:=by
  intro i
  induction i with
  |zero=>
   intro _;show(b++J1 N 0).take c=b;exact Jr hb.1
  |succ i ih=>
   intro hi;have ih:=ih (by omega);have gZ:=h.lo i (by omega);show(wQ p (c+N) (sy p c N W pv b i) (p-at0 (sy p c N W pv b i) (pv i)) (W.getD i [])).take c=wQ p c (cl p c (lft c t W) pv b i) (p-at0 (cl p c (lft c t W) pv b i) (pv i)) ((lft c t W).getD i []);have h1:∀j,j<c->at0 (cl p c (lft c t W) pv b i) j=at0 (sy p c N W pv b i) j:=by grind
   have gn:((wQ p (c+N) (sy p c N W pv b i) (p-at0 (sy p c N W pv b i) (pv i)) (W.getD i [])).take c).length=c:=by grind[zFC]
   rw[wI gn];refine zV fun j hj=>?_
   rw[zDM hj,wQ,zT,h1 j hj,h1 _ gZ];have h4:at0 ((lft c t W).getD i []) j=at0 (W.getD i []) j:=zFN (by omega) hj;rw[h4]
 have hz:=zQ8 hp (by omega) hlr hb;rw[bK]at hz;have e1:(∀i,i<((sy p c N W pv b t).take c).length->at0 ((sy p c N W pv b t).take c) i=0)↔Sp p c A b:=by
  rw[<-hls.iff,<-hz,e t (Je _)]
  grind
 rw[zFa hp gG h h2 hb]at q;have fa:((sy p c N W pv b t).take c).length=c:=by rw[Kf,hy.1];omega
 rcases zAv (v:=(sy p c N W pv b t).take c)with⟨z1,z2⟩|⟨z1,z2⟩
 all_goals grind
theorem zRZ(hr:∀i,i<N->Row p c (A.getD i []))(hl:A.length=N){b:List Int}(hb:Row p c b){r:List Int}(q:zS4 p A (c:Int) b=iW (r,iZ)):r.length=N:=by
 have h7:=hp.pos;obtain⟨W,pv,t,h,h2,h3⟩:=Nul.get hp gG hr hl;have hy:=zIU hp gG h hb t;have hK:=h.nred hp gG;have hx:=zOR hp gG h (b:=b);have fa:((sy p c N W pv b t).take c).length=c:=by rw[Kf,hy.1];omega
 rw[zFa hp gG h h2 hb]at q;rcases zAv (v:=(sy p c N W pv b t).take c)with⟨z1,z2⟩|⟨z1,z2⟩
 ·rw[z1,bs,Jq,zM]at q
  have:=Kt.inj q;rw[<-(Ja3.inj this).1];exact(zAy hp (by omega) hK hx _).1
 grind
end
def ngv(p:Int)(c:Nat)(v:List Int):List Int:=wQ p c (zeros c) (-1) v
theorem yBH{p:Int}{c:Nat}{A:Mx}{v:List Int}:Sp p c A (ngv p c v)↔Sp p c A v:=by
 have hz:Sp p c A (zeros c):=zAa fun j _=>by rw[vG];simp
 constructor
 ·intro g
  refine tN (k:=-1) hz g fun j hj=>?_
  rw[ngv,wQ,zT hj,vG,L4,L4,Ju,Jy,<-Ju];simp
 ·intro g
  refine tN (k:=-1) hz g fun j hj=>?_
  rw[ngv,wQ,zT hj,Jy]
section
variable {x:SPr}{m:zB}{D:Nat} (hx:sJ x) (hD:MOk x.zA.length m D)
 include hx hD
theorem zC8{i:Nat}(hi:i<x.zA.length*D):Row m.Prime (base x.zA.length x.zA.length*D) ((qO x m D).getD i []):=by have hl:=zDP hx.toPres hx.n6;rw[<-hl];exact zGD (zOQ hx.toPres hD) (xL x) i hi
theorem zNn:∃R pv,zP3 x m=iW R/\Red m.Prime (base x.zA.length x.zA.length*D) R pv/\(∀v,Sp m.Prime (base x.zA.length x.zA.length*D) R v↔Sp m.Prime (base x.zA.length x.zA.length*D) (qO x m D) v)/\R.length<=63:=by have h6:=hx.n6;have h3:=hD.d3;have hb:=xY x.zA.length (by omega);have hl:=zDP hx.toPres h6;have fQ:x.zA.length*D<=6*3:=Jp h6 h3;have bE:base x.zA.length x.zA.length*D<=21*3:=Jp hb.2.1 h3;have fP:(qO x m D).length=x.zA.length*D:=xI;obtain⟨R,pv,r1,r2,r3,r4⟩:=zAW hD.p (n:=(xL x).length*D) (by grind) (rows:=qO x m D) (by omega) (by rw[fP];exact zGD (zOQ hx.toPres hD) (xL x));rw[hl]at r3 r4;have hR:=r3.len_le;refine⟨R,pv,?_,r3,fun v=>r4.iff,by omega⟩;unfold zP3;rw[zHp hx.toPres hD,bs,r1,bs]
theorem zQJ:base x.zA.length x.zA.length*D<=63/\x.zA.length*D<=18:=by have h6:=hx.n6;have hb:=xY x.zA.length (by omega);have bE:base x.zA.length x.zA.length*D<=21*3:=Jp hb.2.1 hD.d3;have fQ:x.zA.length*D<=6*3:=Jp h6 hD.d3;omega
theorem zJf{v:List Int}(hv:Row m.Prime (base x.zA.length x.zA.length*D) v):∃u ok,zS4 m.Prime (qO x m D) ((base x.zA.length x.zA.length*D:Nat):Int) (ngv m.Prime (base x.zA.length x.zA.length*D) v)=iW (u,ok)/\
  (ok=iZ↔Sp m.Prime (base x.zA.length x.zA.length*D) (qO x m D) v)/\zYK x m v=iW (if ok then zAh x.zA.length D u else[],ok)/\(ok=iZ->f_R u m.Dim=iW (zAh x.zA.length D u)):=by
 have h7:=hD.p.pos;have h1:=hD.d1;have h3:=hD.d3;obtain⟨hc,hn⟩:=zQJ hx hD;have hw:Row m.Prime (base x.zA.length x.zA.length*D) (ngv m.Prime (base x.zA.length x.zA.length*D) v):=uC hD.p;have mw:(qO x m D).length=x.zA.length*D:=xI;obtain⟨u,ok,s1,s2,s3⟩:=zOT hD.p (c:=base x.zA.length x.zA.length*D) (N:=x.zA.length*D) (by omega) (A:=qO x m D) (by grind[zC8]) mw hw;have gA:=zU5 hD.p (c:=base x.zA.length x.zA.length*D) (N:=x.zA.length*D) (by omega) (A:=qO x m D) (by grind[zC8]) mw hw s1;rw[yBH]at gA;have eQ:ok=iZ->u.length=x.zA.length*D:=fun g=>by subst g;exact zRZ hD.p (by omega) (by grind[zC8]) mw hw s1
 refine⟨u,ok,s1,gA,?_,fun g=>by rw[hD.d,zC6 h1 (by omega) (eQ g)]⟩;unfold zYK yCm
 by_cases g:x.zA.length=0
 ·have pX:qO x m D=[]:=K6 (by grind)
  have dy:base x.zA.length x.zA.length*D=0:=by rw[g];show 0*D=0;omega
  have hk:ok=iZ:=by grind[zAa]
  have hu:u=[]:=by grind
  rw[show((x.zA.length:Int)==0)=iZ from by simp[g],zK,hk,if_pos rfl,g,hu];rfl
 ·have hz:Row m.Prime (base x.zA.length x.zA.length*D) (J1 v.length (0:Int)):=by rw[hv.1];exact xD
  have fY:0<x.zA.length*D:=Nat.mul_pos (by omega) (by omega);have h0:ixO (qO x m D) 0=iW ((qO x m D).getD 0 []):=by grind[zY]
  have cD:=hv.1;rw[show((x.zA.length:Int)==0)=ja from by simp[g],zM,yP,bs,qK hD.p hz hv (by omega) (by omega),bs,zDm hx.toPres hD,bs,h0,bs,bs,(zC8 hx hD (i:=0) fY).1,cD,show wQ m.Prime (base x.zA.length x.zA.length*D) (J1 (base x.zA.length x.zA.length*D) 0) (-1) v=ngv m.Prime (base x.zA.length x.zA.length*D) v from rfl,s2,bs];cases ok with
  |false=>rfl
  |true=>
   rw[Jq,zM,hD.d,zEY h1 (eQ rfl),bs];rfl
end
abbrev zFe:=Nat×List Nat×List Nat
section
variable (x:SPr)
abbrev yG(a:Nat):Nat:=(at0 x.zA a).toNat
abbrev lcj(i j:Nat):List Int:=(x.zC.getD i []).getD (j-(i+1)) []
def swp:List Nat->Option zFe
 |a::b::s=>if b<a then iW (base x.zA.length b+(a-(b+1)),s,b::(nw 0 (lcj x b a)++s))else iY
 |_=>iY
def pws:List Nat->Option zFe
 |a::w=>if(a::w).take (yG x a)=J1 (yG x a) a then iW (a,(a::w).drop (yG x a),nw 0 (x.zJ.getD a [])++(a::w).drop (yG x a))else iY
 | []=>iY
def hdS(w:List Nat):Option zFe:=match swp x w with
 |some r=>iW r
 |none=>pws x w
def stS:List Nat->Option zFe
 | []=>iY
 |a::w=>match hdS x (a::w)with
  |some r=>iW r
  |none=>(stS w).map fun r=>(r.1,r.2.1,a::r.2.2)
end
section
variable {x:SPr}
theorem zYc{w s:List Nat}{r:zFe}(h:swp x w=iW r):swp x (w++s)=iW (r.1,r.2.1++s,r.2.2++s):=by
 match w,h with
 | [],h=>cases h
 | [_],h=>cases h
 |a::b::w,h=>
  simp only[swp]at h
  by_cases g:b<a
  ·rw[if_pos g]at h
   cases h;simp only[Kc,swp,if_pos g,Jh]
  grind
theorem zC9{w:List Nat}{o a:Nat}(h:w.take o=J1 o a):o<=w.length:=by
 have:=congrArg Jad h
 grind
theorem zYd{w s:List Nat}{r:zFe}(h:pws x w=iW r):pws x (w++s)=iW (r.1,r.2.1++s,r.2.2++s):=by
 match w,h with
 | [],h=>cases h
 |a::w,h=>
  simp only[pws]at h
  by_cases g:(a::w).take (yG x a)=J1 (yG x a) a
  ·rw[if_pos g]at h
   cases h;have hl:=zC9 g;have e1:(a::(w++s)).take (yG x a)=(a::w).take (yG x a):=by grind
   have e2:(a::(w++s)).drop (yG x a)=(a::w).drop (yG x a)++s:=by grind
   simp only[Kc,pws]
   grind
  grind
theorem zFS{a b:Nat}{s s2:List Nat}(h:swp x (a::b::s)=iY):swp x (a::b::s2)=iY:=by
 simp only[swp]at h ⊢
 grind
theorem zQK{w:List Nat}(h:hdS x w=iY):swp x w=iY/\pws x w=iY:=by
 unfold hdS at h
 grind
theorem zU6{w:List Nat}(h1:swp x w=iY)(h2:pws x w=iY):hdS x w=iY:=by grind[hdS]
theorem yBI{w s:List Nat}(hw:∀a∈w,2<=yG x a){r:zFe}(h:hdS x w=iW r):hdS x (w++s)=iW (r.1,r.2.1++s,r.2.2++s):=by
 unfold hdS at h ⊢
 cases e:swp x w with
 |some q=>
  grind[zYc]
 |none=>
  rw[e]at h;have e2:swp x (w++s)=iY:=by
   match w,h with
   | [],h=>cases h
   | [a],h=>
    have h2:=hw a (by simp);simp only[pws]at h
    by_cases g:[a].take (yG x a)=J1 (yG x a) a
    ·have h4:=zC9 g;grind
    grind
   |a::b::w,h=>exact zFS e
  grind[zYd]
theorem zFf{k a:Nat}(hk:k<yG x a):∀j,j<=k-> ∀{w:List Nat},(∀b,w.head? =iW b->a<b)->stS x (J1 j a++w)=(stS x w).map fun r=>(r.1,r.2.1,J1 j a++r.2.2)
 |0,_,w,_=>by simp
 |j+1,hj,w,hw=>by
  have ih:=zFf hk j (by omega) hw;rw[Jt,Kc];have h1:swp x (a::(J1 j a++w))=iY:=by
   cases j with
   |succ j=>simp only[Jt,Kc,swp,if_neg (Jb6 a)]
   |zero=>
    simp only[Hb,Jv];cases w with
    |nil=>rfl
    |cons b w=>
     have:=hw b rfl;simp only[swp,if_neg (show¬b<a by omega)]
  have h2:pws x (a::(J1 j a++w))=iY:=by
   simp only[pws];refine if_neg fun g=>?_
   have hl:=zC9 g;have:=congrArg (fun l=>l[j+1]?) g;rw[Gk (by omega),<-Kc,<-Jt,Ji (by simp),Ja,Kx,Uk (by omega)]at this
   grind[List.head?_eq_getElem?]
  simp only[stS];rw[zU6 h1 h2,ih];cases stS x w with
  |none=>rfl
  |some r=>rfl
theorem yBJ{k a:Nat}(hk:k<yG x a):stS x (J1 k a)=iY:=by
 have:=zFf hk k (Je _) (w:=[]) (by simp)
 grind[stS]
theorem zL0:∀{u s:List Nat},(∀a∈u,2<=yG x a)-> ∀{r:zFe},stS x u=iW r->stS x (u++s)=iW (r.1,r.2.1++s,r.2.2++s)
 | [],_,_,_,h=>by cases h
 |a::w,s,hu,r,h=>by
  simp only[stS]at h;rw[Kc];simp only[stS];cases e:hdS x (a::w)with
  |some q=>
   grind[yBI]
  |none=>
   rw[e]at h;cases e2:stS x w with
   |none=>grind
   |some q=>
    rw[e2]at h;cases h;obtain⟨n1,n2⟩:=zQK e;have m1:swp x (a::(w++s))=iY:=by
     cases w with
     |nil=>cases e2
     |cons b w=>exact zFS n1
    have m2:pws x (a::(w++s))=iY:=by
     simp only[pws]at n2 ⊢
     refine if_neg fun g=>?_
     by_cases hl:yG x a<=(a::w).length
     ·grind
     ·have:a::w=J1 (a::w).length a:=by
       have g':=congrArg (Ja0 (a::w).length) g
       grind
      grind[yBJ]
    rw[zU6 m1 m2,zL0 (s:=s) (by grind) e2];rfl
theorem zHq{u s:List Nat}(hu:∀a∈u,2<=yG x a)(h:stS x (u++s)=iY):stS x u=iY:=by
 cases e:stS x u with
 |none=>rfl
 |some r=>grind[zL0]
theorem zU7:∀{u:List Nat}{l i:Nat}{z:List Nat},(∀a∈u,i<a)->i<l->stS x (u++[l])=iY->stS x (u++l::i::z)=iW (base x.zA.length i+(l-(i+1)),z,u++i::(nw 0 (lcj x i l)++z))
 | [],l,i,z,_,hl,_=>by simp only[Jv,stS,hdS,swp,if_pos hl]
 |a::u,l,i,z,hu,hl,hn=>by
  rw[Kc]at hn ⊢
  simp only[stS]at hn ⊢
  cases e:hdS x (a::(u++[l]))with
  |some q=>grind
  |none=>
   rw[e]at hn;have mQ:stS x (u++[l])=iY:=by simp_all
   obtain⟨n1,n2⟩:=zQK e;have m1:swp x (a::(u++l::i::z))=iY:=by
    cases u with
    |nil=>exact zFS n1
    |cons b u=>exact zFS n1
   have m2:pws x (a::(u++l::i::z))=iY:=by
    simp only[pws]at n2 ⊢
    refine if_neg fun g=>?_
    have ea:a::(u++l::i::z)=(a::(u++[l]))++i::z:=by simp
    by_cases ho:yG x a<=(a::(u++[l])).length
    ·grind
    ·have g':=congrArg (fun w=>w[(a::(u++[l])).length]?) g
     rw[Gk (by omega),ea,Ji (Je _),Kx,Uk (by omega)]at g';have:i=a:=by grind
     simp_all
   rw[zU6 m1 m2,zU7 (by grind) hl mQ];rfl
theorem yAh{a:Nat}(ha:2<=yG x a)(w:List Nat):stS x (J1 (yG x a) a++w)=iW (a,w,nw 0 (x.zJ.getD a [])++w):=by
 obtain⟨k,hk⟩:∃k,yG x a=k+2:=⟨yG x a-2,by omega⟩;have e:J1 (yG x a) a++w=a::a::(J1 k a++w):=by grind
 have h1:swp x (J1 (yG x a) a++w)=iY:=by rw[e];simp only[swp,if_neg (Jb6 a)]
 have h2:pws x (J1 (yG x a) a++w)=iW (a,w,nw 0 (x.zJ.getD a [])++w):=by
  have et:(J1 (yG x a) a++w).take (yG x a)=J1 (yG x a) a:=by simp
  have ed:(J1 (yG x a) a++w).drop (yG x a)=w:=by simp
  rw[e]at et ed ⊢
  simp only[pws]
  grind
 have h3:hdS x (J1 (yG x a) a++w)=iW (a,w,nw 0 (x.zJ.getD a [])++w):=by grind[hdS]
 grind[stS]
end
theorem tP{p:Int}{D:Nat}{u v w:List Int}:adv p D (adv p D u v) w=adv p D u (adv p D v w):=by
 refine zV fun j hj=>?_
 grind[zT,Jal]
theorem zBG{p:Int}{D:Nat}{u v:List Int}{A:Mx}:xG p D (adv p D u v) A=adv p D (xG p D u A) (xG p D v A):=by
 refine zV fun j hj=>?_
 rw[xG,xG,zT hj,zT hj,<-Kd,<-zDF];refine zAV fun l hl=>?_
 rw[zT hl,<-Int.add_mul,Ju,Jy,<-Ju]
theorem zNo{α:Type}(m:α->α->α)(z:α):∀(cs:List α)(j n:Nat)(acc:α),j<cs.length->j<n->img m cs (xE n j) acc=m acc (cs.getD j z)
 | [],_,_,_,h,_=>by simp at h
 |c::cs,0,n+1,acc,_,_=>by grind[zEi,img,iter,qI]
 |c::cs,j+1,n+1,acc,h,h2=>by rw[zGz];show img m cs (xE n j) (iter (0:Int).toNat (fun v=>m v c) acc)=_;rw[show iter (0:Int).toNat (fun v=>m v c) acc=acc from rfl,zNo m z cs j n acc (by grind) (by omega),List.getD_cons_succ]
 |_::_,0,0,_,_,h=>by omega
 |_::_,_+1,0,_,_,h=>by omega
theorem zGI(n d:Nat):zeros (n+d)=zeros n++zeros d:=by grind[zeros,Jl]
theorem zU8{n d j:Nat}(hj:j<n:=by omega):xE (n+d) j=xE n j++zeros d:=by grind[xE,zGI,zW]
def fo(e:SPr)(k:Nat)(u:Vec)(w:List Nat):Vec:=w.foldl (fun u a=>mul (suf e k) u (xE (e.zA.length-k) (a-k))) u
theorem zDQ{e:SPr}{k:Nat}{u:Vec}{v w:List Nat}:fo e k u (v++w)=fo e k (fo e k u v) w:=by simp[fo,Gi]
theorem sW{e:SPr}{k:Nat}{u:Vec}{a:Nat}{w:List Nat}:fo e k u (a::w)=fo e k (mul (suf e k) u (xE (e.zA.length-k) (a-k))) w:=rfl
theorem yBK{e:SPr}{k a:Nat}(ha:k<a)(hn:a<e.zA.length){b:Int}{y:Vec}(hb:b<at0 e.zA k):mul (suf e k) (b::y) (xE (e.zA.length-k) (a-k))=b::mul (suf e (k+1)) y (xE (e.zA.length-(k+1)) (a-(k+1))):=by obtain⟨t,ht⟩:∃t,a-k=t+1:=⟨a-(k+1),by omega⟩;obtain⟨s,hs⟩:∃s,e.zA.length-k=s+1:=⟨e.zA.length-(k+1),by omega⟩;rw[yC (x:=e),ht,hs,zGz,yQ,if_neg (by show¬(b+0>=at0 e.zA k);omega),show a-(k+1)=t from by omega,show e.zA.length-(k+1)=s from by omega,Lv];rfl
theorem yBL{e:SPr}{k:Nat}(hn:k<e.zA.length){b:Int}{y:Vec}:mul (suf e k) (b::y) (xE (e.zA.length-k) (k-k))=if b+1>=at0 e.zA k then(b+1-at0 e.zA k)::mul (suf e (k+1)) (lvl e k).w (mul (suf e (k+1)) (sig (suf e (k+1)) (lvl e k) y) (zeros (e.zA.length-(k+1))))else(b+1)::mul (suf e (k+1)) (sig (suf e (k+1)) (lvl e k) y) (zeros (e.zA.length-(k+1))):=by obtain⟨s,hs⟩:∃s,e.zA.length-k=s+1:=⟨e.zA.length-(k+1),by omega⟩;rw[yC (x:=e) hn,hs,Kx,zEi,yQ,show e.zA.length-(k+1)=s from by omega];rfl
section
variable {D:Nat}{x:SPr}{m:zB}{T:Mx} (h:Pres x) (hE:ExB x.zA.length D x m T) (hT:∀i,i<T.length->Row m.Prime D (T.getD i []))
 include h hE hT
theorem yBM{k:Nat}(hk:k<=x.zA.length){e:Vec}(he:V (suf (exx D x m T) k) e):mul (suf (exx D x m T) k) e (zeros ((exx D x m T).zA.length-k))=e:=by have hp:=hE.m.p.pos;obtain⟨y,u,rfl,hy,hu⟩:=(sV h hE hT (x.zA.length-k) k (by omega) _).1 he;have:=zFQ h hE hT (x.zA.length-k) k (by omega) y u (zeros D) hy hu (xD);rw[zAz hu]at this;rw[xW h hE hT,show x.zA.length+D-k=(x.zA.length-k)+D from by omega,zGI];exact this
def adK(p:Int)(D N:Nat)(e d:Vec):Vec:=e.take N++adv p D (e.drop N) d
theorem zL1{k:Nat}(hk:k<=x.zA.length){e d:Vec}(he:V (suf (exx D x m T) k) e)(hd:Row m.Prime D d):adK m.Prime D (x.zA.length-k) e d=mul (suf (exx D x m T) k) e (zeros (x.zA.length-k)++d):=by
 obtain⟨y,u,rfl,hy,hu⟩:=(sV h hE hT (x.zA.length-k) k (by omega) _).1 he
 grind[vC,zFQ,adK]
theorem yBN{k:Nat}(hk:k<=x.zA.length){e d:Vec}(he:V (suf (exx D x m T) k) e):V (suf (exx D x m T) k) (adK m.Prime D (x.zA.length-k) e d):=by have hp:=hE.m.p.pos;obtain⟨y,u,rfl,hy,hu⟩:=(sV h hE hT (x.zA.length-k) k (by omega) _).1 he;have ef:=vC h (by omega) hy;rw[adK,Jr ef,K4 ef];exact(sV h hE hT (x.zA.length-k) k (by omega) _).2 ⟨y,_,rfl,hy,sU⟩
theorem yAi{k:Nat}(hk:k<=x.zA.length){e d d':Vec}(he:V (suf (exx D x m T) k) e):adK m.Prime D (x.zA.length-k) (adK m.Prime D (x.zA.length-k) e d) d'=adK m.Prime D (x.zA.length-k) e (adv m.Prime D d d'):=by obtain⟨y,u,rfl,hy,hu⟩:=(sV h hE hT (x.zA.length-k) k (by omega) _).1 he;have ef:=vC h (by omega) hy;simp only[adK,Jr ef,K4 ef,tP]
theorem zBY{k:Nat}(hk:k<x.zA.length){b:Int}{e d:Vec}:adK m.Prime D (x.zA.length-k) (b::e) d=b::adK m.Prime D (x.zA.length-(k+1)) e d:=by have _:=h;have _:=hE;have _:=hT;rw[show x.zA.length-k=x.zA.length-(k+1)+1 from by omega];rfl
theorem zD{k:Nat}(hk:k<=x.zA.length){d:Vec}(hd:Row m.Prime D d):V (suf (exx D x m T) k) (zeros (x.zA.length-k)++d):=
 (sV h hE hT (x.zA.length-k) k (by omega) _).2 ⟨_,d,rfl,zv h hE hT hk,hd⟩
theorem yAj{k a:Nat}(hk:k<=a)(ha:a<x.zA.length):V (suf x k) (xE (x.zA.length-k) (a-k)):=by
 have _:=hE;have _:=hT;have:=zD5 (h.okAt (k:=k) (by omega)) (j:=a-k) (by grind[yK])
 grind[yK]
theorem zSa{k a:Nat}(hk:k<=a)(ha:a<x.zA.length):xE ((exx D x m T).zA.length-k) (a-k)=xE (x.zA.length-k) (a-k)++zeros D:=by rw[xW h hE hT,show x.zA.length+D-k=x.zA.length-k+D from by omega,zU8]
theorem zDR{k a:Nat}(hk:k<=a)(ha:a<x.zA.length):V (suf (exx D x m T) k) (xE ((exx D x m T).zA.length-k) (a-k)):=by have hp:=hE.m.p.pos;rw[zSa h hE hT hk ha];exact(sV h hE hT (x.zA.length-k) k (by omega) _).2 ⟨_,_,rfl,yAj h hE hT hk ha,xD⟩
theorem zYe{k a:Nat}(hk:k<=a)(ha:a<x.zA.length):aM m D k (xE (x.zA.length-k) (a-k))=m.zF.getD a []:=by have _:=h;have _:=hT;have hA:=hE.m.mat a ha;have hl:=hE.m.len;unfold aM;rw[zNo (PM m.Prime D) [] _ _ _ _ (by grind) (by omega),J2,Lt,show k+(a-k)=a from by omega,<-J2,zBU hA]
variable {k:Nat} (hk:k<x.zA.length) (hc:xU (suf (exx D x m T) (k+1)))
 include hk hc
theorem yAk{a:Nat}(h1:k+1<=a)(ha:a<x.zA.length){e d:Vec}(he:V (suf (exx D x m T) (k+1)) e)(hd:Row m.Prime D d):
  mul (suf (exx D x m T) (k+1)) (adK m.Prime D (x.zA.length-(k+1)) e d) (xE ((exx D x m T).zA.length-(k+1)) (a-(k+1)))=adK m.Prime D (x.zA.length-(k+1)) (mul (suf (exx D x m T) (k+1)) e (xE ((exx D x m T).zA.length-(k+1)) (a-(k+1)))) (xG m.Prime D d (m.zF.getD a [])):=by
 have hp:=hE.m.p.pos;have gA:=uH h hE hT (k:=k+1) (by omega);have G:=(zD7 _ gA hc).toMon;have hg:=zDR h hE hT h1 ha;have hgv:=yAj h hE hT h1 ha;have hz:=zD h hE hT (k:=k+1) (by omega) hd;have eS:=zD h hE hT (k:=k+1) (by omega) (vA (p:=m.Prime) (D:=D) (r:=d) (B:=m.zF.getD a []));rw[zL1 h hE hT (by omega) he hd,G.assoc he hz hg,zSa h hE hT h1 ha,zQH h hE hT _ (k+1) (by omega) _ _ _ hd hgv (xD),zAz (vA),zYe h hE hT h1 ha,<-zSa h hE hT h1 ha,zL1 h hE hT (by omega) (G.cl he hg) (vA),G.assoc he hg eS,zSa h hE hT h1 ha,zFQ h hE hT _ (k+1) (by omega) _ _ _ hgv (xD) (vA),wW (vA)]
 omit hc in
theorem zJg{e d:Vec}(he:V (suf (exx D x m T) (k+1)) e)(_hd:Row m.Prime D d):
    sig (suf (exx D x m T) (k+1)) (lvl (exx D x m T) k) (adK m.Prime D (x.zA.length-(k+1)) e d)=adK m.Prime D (x.zA.length-(k+1)) (sig (suf (exx D x m T) (k+1)) (lvl (exx D x m T) k) e) (xG m.Prime D d (m.zF.getD k [])):=by
  have hp:=hE.m.p.pos;obtain⟨y,u,rfl,hy,hu⟩:=(sV h hE hT (x.zA.length-(k+1)) (k+1) (by omega) _).1 he;have ef:=vC h (by omega) hy;obtain⟨y1,u1,e,fj,ct⟩:=(sV h hE hT (x.zA.length-(k+1)) (k+1) (by omega) _).1 (zIZ h hE hT hk (y:=y));have gT:=vC h (by omega) fj;have e0:adK m.Prime D (x.zA.length-(k+1)) (y++u) d=y++adv m.Prime D u d:=by grind[adK]
  rw[e0,zDa h hE hT hk hy (sU),zDa h hE hT hk hy hu,e,Jr gT,K4 gT,adK,Jr gT,K4 gT,zBG,tP]
theorem zNp{z d:Vec}(hz:V (suf (exx D x m T) (k+1)) z)(hd:Row m.Prime D d){w:Vec}(hw:V (suf (exx D x m T) (k+1)) w):
  mul (suf (exx D x m T) (k+1)) w (adK m.Prime D (x.zA.length-(k+1)) z d)=adK m.Prime D (x.zA.length-(k+1)) (mul (suf (exx D x m T) (k+1)) w z) d:=by
 have gA:=uH h hE hT (k:=k+1) (by omega);have G:=(zD7 _ gA hc).toMon;rw[zL1 h hE hT (by omega) hz hd,zL1 h hE hT (by omega) (G.cl hw hz) hd,G.assoc hw hz (by grind[zD])]
 omit hc in
theorem zSb:V (suf (exx D x m T) (k+1)) (lvl (exx D x m T) k).w:=by
  have gA:=uH h hE hT (k:=k) (by omega);rw[yC (x:=exx D x m T) (by grind[xW])]at gA;exact gA.2.1
 omit hc in
theorem zBH{e:Vec}(he:V (suf (exx D x m T) (k+1)) e):V (suf (exx D x m T) (k+1)) (sig (suf (exx D x m T) (k+1)) (lvl (exx D x m T) k) e):=by
  have gA:=uH h hE hT (k:=k) (by omega);rw[yC (x:=exx D x m T) (by grind[xW])]at gA
  grind[zD6]
theorem zHr{b:Int}{e:Vec}(he:V (suf (exx D x m T) (k+1)) e):mul (suf (exx D x m T) k) (b::e) (xE ((exx D x m T).zA.length-k) (k-k))=if b+1>=at0 x.zA k then(b+1-at0 x.zA k)::mul (suf (exx D x m T) (k+1)) (lvl (exx D x m T) k).w (sig (suf (exx D x m T) (k+1)) (lvl (exx D x m T) k) e)else(b+1)::sig (suf (exx D x m T) (k+1)) (lvl (exx D x m T) k) e:=by have _:=hc;rw[yBL (by grind[xW]),yBM h hE hT (by omega) (zBH h hE hT hk he),tI h hE hT hk]
theorem zNq{a:Nat}(h1:k<a)(ha:a<x.zA.length){b:Int}(hb:b<at0 x.zA k){e:Vec}:mul (suf (exx D x m T) k) (b::e) (xE ((exx D x m T).zA.length-k) (a-k))=b::mul (suf (exx D x m T) (k+1)) e (xE ((exx D x m T).zA.length-(k+1)) (a-(k+1))):=by have _:=hc;grind[yBK,xW,tI]
theorem yFs{a:Nat}(h1:k<=a)(ha:a<x.zA.length){b:Int}(hb:b<at0 x.zA k){e d:Vec}(he:V (suf (exx D x m T) (k+1)) e)(hd:Row m.Prime D d):
  mul (suf (exx D x m T) k) (b::adK m.Prime D (x.zA.length-(k+1)) e d) (xE ((exx D x m T).zA.length-k) (a-k))=adK m.Prime D (x.zA.length-k) (mul (suf (exx D x m T) k) (b::e) (xE ((exx D x m T).zA.length-k) (a-k))) (xG m.Prime D d (m.zF.getD a [])):=by
 have hp:=hE.m.p.pos;rcases Jk k a with g|g
 ·rw[zNq h hE hT hk hc g ha hb,zNq h hE hT hk hc g ha hb,yAk h hE hT hk hc g ha he hd,zBY h hE hT hk]
 ·obtain rfl:a=k:=by omega
  rw[zHr h hE hT hk hc (by grind[yBN]),zHr h hE hT hk hc he,zJg h hE hT hk he hd];split
  ·rw[zNp h hE hT hk hc (zBH h hE hT hk he) (vA) (zSb h hE hT hk),zBY h hE hT hk]
  grind[zBY]
theorem yEj{a:Nat}(h1:k<=a)(ha:a<x.zA.length){e:Vec}(he:V (suf (exx D x m T) k) e):V (suf (exx D x m T) k) (mul (suf (exx D x m T) k) e (xE ((exx D x m T).zA.length-k) (a-k))):=by have _:=hc;grind[yU,uH,zDR]
theorem yFt:∀{w:List Nat},(∀a∈w,k<=a/\a<x.zA.length)-> ∀{e:Vec},V (suf (exx D x m T) k) e->V (suf (exx D x m T) k) (fo (exx D x m T) k e w)
 | [],_,_,he=>he
 |a::w,hw,e,he=>by rw[sW];exact yFt (by grind) (by grind[yEj])
theorem zQL:∀{w:List Nat},(∀a∈w,k<=a/\a<x.zA.length)-> ∀{e d:Vec},V (suf (exx D x m T) k) e->Row m.Prime D d->fo (exx D x m T) k (adK m.Prime D (x.zA.length-k) e d) w=adK m.Prime D (x.zA.length-k) (fo (exx D x m T) k e w) (xG m.Prime D d (wM m.Prime D m.zF w (idM D)))
 | [],_,e,d,_,hd=>by show adK _ _ _ e d=adK _ _ _ e (xG m.Prime D d (idM D));rw[jN hd]
 |a::w,hw,e,d,he,hd=>by
  have hp:=hE.m.p.pos;obtain⟨a1,a2⟩:=hw a (by simp);have hA:=hE.m.mat a a2;have iF:=he;rw[yC (x:=exx D x m T) (by grind[xW])]at iF;cases e with
  |nil=>exact iF.elim
  |cons b e=>
   obtain⟨⟨b0,b1⟩,he1⟩:=iF;have b2:b<at0 x.zA k:=by rw[<-tI h hE hT hk];exact b1
   rw[sW,sW,zBY h hE hT hk,yFs h hE hT hk hc a1 a2 b2 he1 hd,zQL (by grind) (by grind[yEj]) (vA),zEt hA.1]
   congr 2
   show PM _ _ _ (wM m.Prime D m.zF w (idM D))=wM m.Prime D m.zF w (PM m.Prime D (idM D) (m.zF.getD a []));rw[<-zIJ (by omega) hA.1 w (sS),zDI hA,zBU hA]
end
inductive Col (x:SPr) (k:Nat):List Nat->List (Nat×List Nat)->List Nat->Prop where
 |refl (w:List Nat):Col x k w [] w
 |step {w w1 w' s:List Nat}{r:Nat}{tr:List (Nat×List Nat)} (hw:∀a∈w,k<=a/\a<x.zA.length) (hs:stS x w=iW (r,s,w1)) (h:Col x k w1 tr w'):Col x k w ((r,s)::tr) w'
theorem Col.trans{x:SPr}{k:Nat}{w w1 w2:List Nat}{t1 t2:List (Nat×List Nat)}(h:Col x k w t1 w1)(h2:Col x k w1 t2 w2):Col x k w (t1++t2) w2:=by
 induction h with
 |refl w=>exact h2
 |step hw hs _ ih=>exact .step hw hs (ih h2)
def tv(p:Int)(D:Nat)(m:zB)(T:Mx):List (Nat×List Nat)->Vec
 | []=>zeros D
 |(r,s)::t=>adv p D (xG p D (T.getD r []) (wM p D m.zF s (idM D))) (tv p D m T t)
section
variable {p:Int}{D:Nat}{m:zB}{T:Mx} (hp:2<=p)
 include hp
theorem zGJ:∀t,Row p D (tv p D m T t)
 | []=>xD
 |(_,_)::_=>sU
theorem zJh:∀t u,tv p D m T (t++u)=adv p D (tv p D m T t) (tv p D m T u)
 | [],u=>(wW (zGJ hp u)).symm
 |(r,s)::t,u=>by show adv p D _ (tv p D m T (t++u))=adv p D (adv p D _ _) _;rw[zJh t u,tP]
theorem zU9{A:List Mx}{u v:List Nat}:wM p D A (u++v) (idM D)=PM p D (wM p D A u (idM D)) (wM p D A v (idM D)):=by have hu:=zCQ (D:=D) (A:=A) (show 0<p by omega) u (sS hp);rw[zEm,<-zIJ (by omega) hu.1 v (sS hp),zDI hu]
theorem zFT{A:List Mx}{u v:List Nat}{r:Vec}:xG p D r (wM p D A (u++v) (idM D))=xG p D (xG p D r (wM p D A u (idM D))) (wM p D A v (idM D)):=by have hu:=zCQ (D:=D) (A:=A) (show 0<p by omega) u (sS hp);rw[zU9 hp,zEt hu.1]
theorem zUA(z:List Nat):∀t,tv p D m T (t.map fun q=>(q.1,q.2++z))=xG p D (tv p D m T t) (wM p D m.zF z (idM D))
 | []=>kF.symm
 |(r,s)::t=>by show adv p D (xG p D (T.getD r []) (wM p D m.zF (s++z) (idM D))) (tv p D m T (t.map fun q=>(q.1,q.2++z)))=xG p D (adv p D _ (tv p D m T t)) _;rw[zUA z t,zBG,zFT hp]
end
section
variable {x:SPr} (h:Pres x)
 include h
theorem zJi{a:Nat}(ha:a<x.zA.length):2<=yG x a:=by
 have:=(h.os.2 a ha).pos
 grind
theorem qE{v:List Int}{i:Nat}(hv:Exp x.zA v i)(hi:i<x.zA.length):nw 0 v=nw (i+1) (v.drop (i+1))/\ ∀a∈nw 0 v,i+1<=a/\a<x.zA.length:=by
 have _:=h;have e:=zB1 hv hi;have e1:nw 0 v=nw (i+1) (v.drop (i+1)):=by rw[e,zEl,zDN,zW,Jv,Jc,K4 (by rw[zW])]
 refine⟨e1,fun a ha=>?_⟩;rw[e1]at ha;refine⟨?_,zMT (n:=x.zA.length) (i+1) _ (by rw[Kv,hv.1.1];omega) a ha⟩
 clear e e1 hv
 generalize v.drop (i+1)=y at ha
 generalize i+1=o at ha ⊢
 clear hi
 induction y generalizing o with
 |nil=>grind[nw]
 |cons b y ih=>
  grind[nw]
theorem uJ{i j:Nat}(hi:i<j)(hj:j<x.zA.length):Exp x.zA (lcj x i j) i:=by have g:=(h.tl i (by omega)).2.1;exact(h.tl i (by omega)).2.2 (j-(i+1)) (by omega)
theorem zAd{i:Nat}(hi:i<x.zA.length):Exp x.zA (x.zJ.getD i []) i:=(h.tl i hi).1
theorem zUB:∀(o:Nat)(y:Vec),∀a∈nw o y,o<=a
 |_,[],a,ha=>by grind[nw]
 |o,b::y,a,ha=>by
  have _:=h;simp only[nw,Jf]at ha;rcases ha with ha|ha
  ·grind
  ·have:=zUB (o+1) y a ha;omega
theorem zQM{k:Nat}{y:Vec}(hk:k<=x.zA.length)(hy:V (suf x k) y):∀a∈nw k y,k<=a/\a<x.zA.length:=fun a ha=>
 ⟨zUB h k y a ha,zMT (n:=x.zA.length) k y (by grind[vC]) a ha⟩
theorem zGK:∀(d k:Nat),k+d=x.zA.length-> ∀y,V (suf x k) y->stS x (nw k y)=iY
 |0,k,hk,y,hy=>by rw[vN (x:=x) (k:=k)]at hy;obtain rfl:y=[]:=hy;rfl
 |d+1,k,hk,y,hy=>by
  rw[yC (x:=x)]at hy;cases y with
  |nil=>rfl
  |cons b y=>
   obtain⟨⟨b0,b1⟩,hy⟩:=hy;change b<at0 x.zA k at b1;simp only[nw];have gJ:b.toNat<yG x k:=by grind
   rw[zFf gJ b.toNat (Je _) fun a ha=>?_,zGK d (k+1) (by omega) y hy]
   ·rfl
   ·have:=zUB h (k+1) y a (by grind[Qt])
    omega
theorem Col.ctx{i a:Nat}(hi:i<x.zA.length)(ha:a<yG x i){s:List Nat}(hs:∀b∈s,i<=b/\b<x.zA.length){w w':List Nat}{tr:List (Nat×List Nat)}(hc:Col x (i+1) w tr w'):
  Col x i (J1 a i++(w++s)) (tr.map fun q=>(q.1,q.2++s)) (J1 a i++(w'++s)):=by
 induction hc with
 |refl w=>exact .refl _
 | @step w w1 w' s1 r tr hw gM _ ih=>
  refine .step (fun b hb=>?_) ?_ ih
  ·grind
  ·rw[zFf ha a (Je _) fun b hb=>?_,zL0 (by grind[zJi]) gM]
   ·rfl
   ·cases w with
    |nil=>cases gM
    |cons c w=>
     simp only[Kc,Jah,Kt.injEq]at hb;have:=hw c (by simp);omega
def cwd(x:SPr)(i:Nat):List Nat->List Nat
 | []=>[]
 |l::ur=>cwd x i ur++nw 0 (lcj x i l)
def mtr(x:SPr)(i:Nat):List Nat->List Nat->List (Nat×List Nat)
 | [],_=>[]
 |l::ur,z=>(base x.zA.length i+(l-(i+1)),z)::mtr x i ur (nw 0 (lcj x i l)++z)
theorem zL2{i:Nat}:∀{ur:List Nat},(∀b∈ur,i+1<=b/\b<x.zA.length)-> ∀b∈cwd x i ur,i+1<=b/\b<x.zA.length
 | [],_,b,hb=>by grind[cwd]
 |l::ur,hu,b,hb=>by
  simp only[cwd,Jf]at hb;obtain⟨l1,l2⟩:=hu l (by simp);rcases hb with hb|hb
  ·exact zL2 (by grind) b hb
  ·exact(qE h (uJ h (by omega) l2) (by omega)).2 b hb
theorem Col.move{i a:Nat}(hi:i<x.zA.length)(ha:a<yG x i):∀{ur:List Nat},(∀b∈ur,i+1<=b/\b<x.zA.length)->stS x ur.reverse=iY-> ∀{z:List Nat},(∀b∈z,i<=b/\b<x.zA.length)->
  Col x i (J1 a i++(ur.reverse++i::z)) (mtr x i ur z) (J1 (a+1) i++(cwd x i ur++z))
 | [],_,_,z,_=>by
  have e:J1 a i++(([]:List Nat).reverse++i::z)=J1 (a+1) i++(cwd x i []++z):=by grind[Kz,cwd]
  rw[e];exact .refl _
 |l::ur,hu,hn,z,hz=>by
  obtain⟨l1,l2⟩:=hu l (by simp);have cP:∀b∈ur,i+1<=b/\b<x.zA.length:=by grind
  have cV:=qE h (uJ h (show i<l by omega) l2) hi;rw[Hx]at hn ⊢
  have mQ:=zHq (by grind[zJi]) hn;have eS:∀b∈nw 0 (lcj x i l)++z,i<=b/\b<x.zA.length:=by grind
  have ih:=Col.move hi ha cP mQ eS;rw[show cwd x i (l::ur)++z=cwd x i ur++(nw 0 (lcj x i l)++z)from by simp[cwd]];have e1:ur.reverse++[l]++i::z=ur.reverse++l::i::z:=by simp
  rw[e1];refine .step (fun b hb=>?_) ?_ ih
  ·simp only[Jf,Jb,List.mem_reverse]at hb
   rcases hb with hb|hb|hb|hb|hb
   ·grind
   ·grind
   ·omega
   all_goals grind
  ·rw[zFf ha a (Je _) fun b hb=>?_,zU7 (by grind) (by omega) hn]
   ·rfl
   ·have:b∈ur.reverse++l::i::z:=by grind[Qt]
    cases e:ur.reverse with
    |nil=>grind
    |cons c t=>
     grind
end
theorem zJj{α:Type}(m:α->α->α)(c:Nat->α)(z:α):∀(cs:List α)(v:Vec)(o:Nat)(acc:α),(∀j,j<cs.length->cs.getD j z=c (o+j))->v.length<=cs.length->img m cs v acc=(nw o v).foldl (fun acc j=>m acc (c j)) acc
 |cs,[],o,acc,_,_=>by cases cs<;>rfl
 | [],_::_,_,_,_,h=>by simp at h
 |a::cs,b::v,o,acc,hc,hl=>by
  have h0:=hc 0 (by simp);simp only[Gd,Qy]at h0;have e:∀(k:Nat)(u:α),(J1 k o).foldl (fun acc j=>m acc (c j)) u=iter k (fun v=>m v a) u:=by
   intro k
   induction k with
   |zero=>intro u;rfl
   |succ k ih=>intro u;rw[Jt,Gb,ih,h0];rfl
  show img m cs v (iter b.toNat (fun v=>m v a) acc)=_;simp only[nw,Gi];rw[e,zJj m c z cs v (o+1) _ (fun j hj=>by have:=hc (j+1) (by grind);grind) (by grind)]
theorem map_drop{l:List (List Int)}{n i:Nat}:(l.map (·.drop n)).getD i []=(l.getD i []).drop n:=by grind
section
variable {D:Nat}{x:SPr}{m:zB}{T:Mx} (h:Pres x) (hE:ExB x.zA.length D x m T) (hT:∀i,i<T.length->Row m.Prime D (T.getD i []))
 include h hE hT
theorem zYf{k:Nat}(hk:k<x.zA.length)(hc:xU (suf (exx D x m T) k)):xU (suf (exx D x m T) (k+1)):=by rw[yC (x:=exx D x m T) (by grind[xW])]at hc;exact hc.1
theorem zOY{k:Nat}(hk:k<=x.zA.length):V (suf (exx D x m T) k) (zeros ((exx D x m T).zA.length-k)):=by grind[wG,uH,yK]
theorem zJk{k:Nat}(hk:k<=x.zA.length):zeros ((exx D x m T).zA.length-k)=zeros (x.zA.length-k)++zeros D:=by rw[xW h hE hT,show x.zA.length+D-k=x.zA.length-k+D from by omega,zGI]
theorem zE2{k:Nat}(hk:k<=x.zA.length){y u:Vec}(hy:V (suf x k) y)(hu:Row m.Prime D u):V (suf (exx D x m T) k) (y++u):=
 (sV h hE hT (x.zA.length-k) k (by omega) _).2 (by grind)
theorem zA0{k:Nat}(hk:k<=x.zA.length){y u d:Vec}(hy:V (suf x k) y):adK m.Prime D (x.zA.length-k) (y++u) d=y++adv m.Prime D u d:=by have _:=hE;have _:=hT;have ef:=vC h hk hy;rw[adK,Jr ef,K4 ef]
theorem zJl:∀(d k:Nat),k+d=x.zA.length->xU (suf (exx D x m T) k)-> ∀y,V (suf x k) y->fo (exx D x m T) k (zeros ((exx D x m T).zA.length-k)) (nw k y)=y++zeros D
 |0,k,hk,_,y,hy=>by rw[vN (x:=x) (k:=k)]at hy;obtain rfl:y=[]:=hy;rw[zJk h hE hT (by omega),show x.zA.length-k=0 from by omega];rfl
 |d+1,k,hk,hc,y,hy=>by
  have fA:=zYf h hE hT (by omega) hc;have ih:=zJl d (k+1) (by omega) fA;rw[yC (x:=x)]at hy;cases y with
  |nil=>exact hy.elim
  |cons b y=>
   obtain⟨⟨b0,b1⟩,hy⟩:=hy;change b<at0 x.zA k at b1;have pM:k<x.zA.length:=by omega
   have hz:=zOY h hE hT (k:=k+1) (by omega);simp only[nw];rw[zDQ];have e1:∀c:Nat,(c:Int)<at0 x.zA k->fo (exx D x m T) k (zeros ((exx D x m T).zA.length-k)) (J1 c k)=(c:Int)::zeros ((exx D x m T).zA.length-(k+1)):=by
    intro c
    induction c with
    |zero=>
     intro _;have hl:=xW h hE hT;rw[show(exx D x m T).zA.length-k=(exx D x m T).zA.length-(k+1)+1 from by omega];rfl
    |succ c ihc=>
     intro gy;rw[Kz,zDQ,ihc (by omega)];show mul _ _ _=_;rw[zHr h hE hT pM fA hz,if_neg (by omega)];have:sig (suf (exx D x m T) (k+1)) (lvl (exx D x m T) k) (zeros ((exx D x m T).zA.length-(k+1)))=zeros ((exx D x m T).zA.length-(k+1)):=by grind[sig,qI,yK]
     grind
   have e2:∀(w:List Nat)(e:Vec),(∀a∈w,k+1<=a/\a<x.zA.length)->fo (exx D x m T) k (b::e) w=b::fo (exx D x m T) (k+1) e w:=by
    intro w
    induction w with
    |nil=>intro e _;rfl
    |cons a w ihw=>
     intro e hw;rw[sW,zNq h hE hT pM fA (hw a (by simp)).1 (hw a (by simp)).2 b1,ihw _ (by grind)];rfl
   have:=e1 b.toNat (by omega);rw[this,show((b.toNat:Nat):Int)=b from by omega,e2 _ _ fun a ha=>zQM h (by omega) hy a ha,ih y hy];rfl
variable {k:Nat} (hk:k<x.zA.length) (hc:xU (suf (exx D x m T) (k+1)))
 include hk hc
theorem zJm{b:Int}(hb:b<at0 x.zA k):∀(w:List Nat)(e:Vec),(∀a∈w,k+1<=a/\a<x.zA.length)->fo (exx D x m T) k (b::e) w=b::fo (exx D x m T) (k+1) e w
 | [],e,_=>rfl
 |a::w,e,hw=>by rw[sW,zNq h hE hT hk hc (hw a (by simp)).1 (hw a (by simp)).2 hb,zJm hb w _ (by grind)];rfl
 omit hc in
theorem zSc:∀{w:List Nat},(∀a∈w,k+1<=a/\a<x.zA.length)-> ∀{e:Vec},V (suf (exx D x m T) (k+1)) e->V (suf (exx D x m T) (k+1)) (fo (exx D x m T) (k+1) e w)
  | [],_,_,he=>he
  |a::w,hw,e,he=>by rw[sW];exact zSc (fun b hb=>hw b (by simp[hb])) (yU (uH h hE hT (by omega)) he (zDR h hE hT (hw a (by simp)).1 (hw a (by simp)).2))
theorem zUC:∀{w:List Nat},(∀a∈w,k+1<=a/\a<x.zA.length)-> ∀{e d:Vec},V (suf (exx D x m T) (k+1)) e->Row m.Prime D d->fo (exx D x m T) (k+1) (adK m.Prime D (x.zA.length-(k+1)) e d) w=adK m.Prime D (x.zA.length-(k+1)) (fo (exx D x m T) (k+1) e w) (xG m.Prime D d (wM m.Prime D m.zF w (idM D)))
 | [],_,e,d,_,hd=>by show adK _ _ _ e d=adK _ _ _ e (xG m.Prime D d (idM D));rw[jN hd]
 |a::w,hw,e,d,he,hd=>by
  have hp:=hE.m.p.pos;obtain⟨a1,a2⟩:=hw a (by simp);have hA:=hE.m.mat a a2;rw[sW,sW,yAk h hE hT hk hc a1 a2 he hd,zUC (by grind) (by grind[yU,uH,zDR]) (vA),zEt hA.1]
  congr 2
  show PM _ _ _ (wM m.Prime D m.zF w (idM D))=wM m.Prime D m.zF w (PM m.Prime D (idM D) (m.zF.getD a []));rw[<-zIJ (by omega) hA.1 w (sS),zDI hA,zBU hA]
theorem zUD:∀{w:List Nat},(∀a∈w,k+1<=a/\a<x.zA.length)-> ∀{e f:Vec},V (suf (exx D x m T) (k+1)) e->V (suf (exx D x m T) (k+1)) f->fo (exx D x m T) (k+1) (mul (suf (exx D x m T) (k+1)) e f) w=mul (suf (exx D x m T) (k+1)) e (fo (exx D x m T) (k+1) f w)
 | [],_,_,_,_,_=>rfl
 |a::w,hw,e,f,he,hf=>by have gA:=uH h hE hT (k:=k+1) (by omega);have G:=(zD7 _ gA hc).toMon;have hg:=zDR h hE hT (hw a (by simp)).1 (hw a (by simp)).2;rw[sW,sW,G.assoc he hf hg,zUD (by grind) he (G.cl hf hg)]
theorem zJn{w:List Nat}(hw:∀a∈w,k+1<=a/\a<x.zA.length){e:Vec}(he:V (suf (exx D x m T) (k+1)) e):fo (exx D x m T) (k+1) e w=mul (suf (exx D x m T) (k+1)) e (fo (exx D x m T) (k+1) (zeros ((exx D x m T).zA.length-(k+1))) w):=by rw[<-zUD h hE hT hk hc hw he (by grind[zOY]),yBM h hE hT (by omega) he]
def dm(p:Int)(D:Nat)(x:SPr)(m:zB)(T:Mx)(k:Nat):List Nat->Vec
 | []=>zeros D
 |l::ur=>adv p D (xG p D (dm p D x m T k ur) (wM p D m.zF (nw 0 (lcj x k l)) (idM D))) (T.getD (base x.zA.length k+(l-(k+1))) [])
 omit h hE hT hk hc in
theorem zOZ(hp:2<=m.Prime):∀ur,Row m.Prime D (dm m.Prime D x m T k ur)
  | []=>xD
  |_::_=>sU
 omit h hE hT hk hc in
theorem zPa(hp:2<=m.Prime):∀(ur:List Nat)(z:List Nat),tv m.Prime D m T (mtr x k ur z)=xG m.Prime D (dm m.Prime D x m T k ur) (wM m.Prime D m.zF z (idM D))
  | [],z=>kF.symm
  |l::ur,z=>by show adv m.Prime D _ (tv m.Prime D m T (mtr x k ur (nw 0 (lcj x k l)++z)))=xG m.Prime D (adv m.Prime D _ _) _;rw[zPa hp ur,zBG,zFT hp,uD]
theorem zUE:∀{ur:List Nat},(∀b∈ur,k+1<=b/\b<x.zA.length)->ur.reverse.foldl (fun acc j=>mul (suf (exx D x m T) (k+1)) acc ((lvl (exx D x m T) k).cs.getD (j-(k+1)) [])) (zeros ((exx D x m T).zA.length-(k+1)))=
  adK m.Prime D (x.zA.length-(k+1)) (fo (exx D x m T) (k+1) (zeros ((exx D x m T).zA.length-(k+1))) (cwd x k ur)) (dm m.Prime D x m T k ur)
 | [],_=>by have hp:=hE.m.p.pos;show zeros _=adK _ _ _ (zeros _) (zeros D);rw[zJk h hE hT (by omega),zA0 h hE hT (by omega) (by grind[zv]),wW (xD)]
 |l::ur,hu=>by
  have hp:=hE.m.p.pos;obtain⟨l1,l2⟩:=hu l (by simp);have cP:∀b∈ur,k+1<=b/\b<x.zA.length:=by grind
  have gA:=uH h hE hT (k:=k+1) (by omega);have G:=(zD7 _ gA hc).toMon;have hz:=zOY h hE hT (k:=k+1) (by omega);have pN:=zL2 h cP;have hF:=zSc h hE hT hk pN hz;have cV:=qE h (uJ h (show k<l by omega) l2) hk;have gy:V (suf x (k+1)) ((lcj x k l).drop (k+1)):=by grind[zAk,uJ]
  have cK:(lvl x k).cs.getD (l-(k+1)) []=(lcj x k l).drop (k+1):=map_drop;have ht:=zEG h hE hT (show k<l by omega) l2;have hd:=zOZ (D:=D) (x:=x) (m:=m) (T:=T) (k:=k) (by omega) ur;have iC:=zJl h hE hT (x.zA.length-(k+1)) (k+1) (by omega) hc _ gy;have cz:=zE2 h hE hT (k:=k+1) (by omega) gy (xD (p:=m.Prime) (D:=D));rw[Hx,Gi,zUE cP];show mul _ (adK _ _ _ _ _) ((lvl (exx D x m T) k).cs.getD (l-(k+1)) [])=_;rw[zJb h hE hT hk l1 l2,cK];have e1:(lcj x k l).drop (k+1)++T.getD (base x.zA.length k+(l-(k+1))) []=adK m.Prime D (x.zA.length-(k+1)) ((lcj x k l).drop (k+1)++zeros D) (T.getD (base x.zA.length k+(l-(k+1))) []):=by grind[zA0,wW]
  have gS:∀b∈nw (k+1) ((lcj x k l).drop (k+1)),k+1<=b/\b<x.zA.length:=by grind
  have fh:=yBN h hE hT (k:=k+1) (by omega) hF (d:=dm m.Prime D x m T k ur);rw[e1,zNp h hE hT hk hc cz ht fh,<-iC,<-zJn h hE hT hk hc gS fh,zUC h hE hT hk hc gS hF hd,yAi h hE hT (by omega) (zSc h hE hT hk gS hF),<-zDQ,<-cV.1];rfl
theorem zQN{y:Vec}(hy:V (suf x (k+1)) y):sig (suf (exx D x m T) (k+1)) (lvl (exx D x m T) k) (y++zeros D)=adK m.Prime D (x.zA.length-(k+1)) (fo (exx D x m T) (k+1) (zeros ((exx D x m T).zA.length-(k+1))) (cwd x k (nw (k+1) y).reverse)) (dm m.Prime D x m T k (nw (k+1) y).reverse):=by have hp:=hE.m.p.pos;have ef:=vC h (by omega) hy;have gS:=zQM h (by omega) hy;rw[<-zUE h hE hT hk hc (by grind),K8,zDa h hE hT hk hy (xD),kF];obtain⟨y1,u1,e,fj,ct⟩:=(sV h hE hT (x.zA.length-(k+1)) (k+1) (by omega) _).1 (zIZ h hE hT hk (y:=y));have gT:=vC h (by omega) fj;rw[e,Jr gT,K4 gT,zAz ct,<-e];unfold sgG;rw[yK];refine zJj _ (fun j=>(lvl (exx D x m T) k).cs.getD (j-(k+1)) []) [] _ _ _ _ (fun j hj=>?_) (by grind[jT]);rw[jT h hE hT]at hj;rw[show k+1+j-(k+1)=j from by omega,zCZ h hE hT hk,J2,J2,K0 (by grind[jT])]
end
section
variable {x:SPr} (h:Pres x)
 include h
theorem zNr{D:Nat}{m:zB}{T:Mx}(hE:ExB x.zA.length D x m T)(hT:∀i,i<T.length->Row m.Prime D (T.getD i [])){k:Nat}(hk:k<=x.zA.length)(hc:xU (suf (exx D x m T) k)):xU (suf (exx D x m T) (k+1)):=by
 have hl:=xW h hE hT
 by_cases g:k<x.zA.length+D
 ·rw[yC (x:=exx D x m T)]at hc
  exact hc.1
 ·rw[vN]at hc ⊢
  exact hc
structure sD (x:SPr) (k:Nat) (z:List Nat) (tr:List (Nat×List Nat)) (y:Vec):Prop where
 col:Col x k z tr (nw k y)
 v:V (suf x k) y
 val:∀(D:Nat)(m:zB)(T:Mx),ExB x.zA.length D x m T->(∀i,i<T.length->Row m.Prime D (T.getD i []))->xU (suf (exx D x m T) (k+1))->fo (exx D x m T) k (zeros ((exx D x m T).zA.length-k)) z=y++tv m.Prime D m T tr
theorem zQO{k:Nat}(hk:k<x.zA.length)(P:∀v:List Nat,(∀a∈v,k+1<=a/\a<x.zA.length)-> ∃tr y,sD x (k+1) v tr y):∀(z:List Nat),(∀a∈z,k<=a/\a<x.zA.length)-> ∀(a:Nat),a<yG x k-> ∀(v:List Nat),(∀a∈v,k+1<=a/\a<x.zA.length)->
  ∃tr y,Col x k (J1 a k++(v++z)) tr (nw k y)/\V (suf x k) y/\ ∀(D:Nat)(m:zB)(T:Mx),ExB x.zA.length D x m T->(∀i,i<T.length->Row m.Prime D (T.getD i []))->xU (suf (exx D x m T) (k+1))->
   fo (exx D x m T) k ((a:Int)::fo (exx D x m T) (k+1) (zeros ((exx D x m T).zA.length-(k+1))) v) z=y++tv m.Prime D m T tr
 | [],_,a,ha,v,hv=>by
  obtain⟨tr,y,c1,c2,c3⟩:=P v hv;have hc:=Col.ctx h hk ha (s:=[]) (by simp) c1;rw[show(fun q:Nat×List Nat=>(q.1,q.2++[]))=id from by grind,List.map_id,J9,J9]at hc;refine⟨tr,(a:Int)::y,?_,?_,fun D m T hE hT hc=>?_⟩
  ·grind[nw]
  ·rw[yC hk]
   refine⟨⟨by omega,?_⟩,c2⟩;show(a:Int)<at0 x.zA k
   grind
  ·rw[c3 D m T hE hT (by grind[zNr])];rfl
 |l::z,hz,a,ha,v,hv=>by
  have eS:∀b∈z,k<=b/\b<x.zA.length:=by grind
  obtain⟨l1,l2⟩:=hz l (by simp);have mb:(a:Int)<at0 x.zA k:=by grind
  rcases Jk k l with g|g
  ·obtain⟨tr,y,c1,c2,c3⟩:=zQO hk P z eS a ha (v++[l]) (by grind)
   refine⟨tr,y,by grind,c2,fun D m T hE hT hc=>?_⟩;rw[<-c3 D m T hE hT hc,sW,zNq h hE hT hk hc g l2 mb,zDQ];rfl
  ·obtain rfl:l=k:=by omega
   obtain⟨tr1,y1,c1,c2,c3⟩:=P v hv;have gS:=zQM h (by omega) c2;have pz:∀b∈(nw (l+1) y1).reverse,l+1<=b/\b<x.zA.length:=by grind
   have k1:=Col.ctx h hk ha (s:=l::z) hz c1;have k2:=Col.move h hk ha pz (by rw[K8];exact zGK h _ _ (by omega:l+1+(x.zA.length-(l+1))=x.zA.length) y1 c2) eS;rw[K8]at k2;have pN:=zL2 h pz;have val:∀(D:Nat)(m:zB)(T:Mx)(hE:ExB x.zA.length D x m T)(hT:∀i,i<T.length->Row m.Prime D (T.getD i []))(hc:xU (suf (exx D x m T) (l+1))),
     fo (exx D x m T) l ((a:Int)::fo (exx D x m T) (l+1) (zeros ((exx D x m T).zA.length-(l+1))) v) (l::z)=adK m.Prime D (x.zA.length-l) (fo (exx D x m T) l (mul (suf (exx D x m T) l) ((a:Int)::(y1++zeros D)) (xE ((exx D x m T).zA.length-l) (l-l))) z) (tv m.Prime D m T (tr1.map fun q=>(q.1,q.2++l::z))):=by
    intro D m T hE hT hc;have hp:=hE.m.p.pos;have ht:=zGJ (D:=D) (m:=m) (T:=T) (p:=m.Prime) (by omega) tr1;have bU:=zE2 h hE hT (k:=l+1) (by omega) c2 (xD (p:=m.Prime) (D:=D));have aP:V (suf (exx D x m T) l) ((a:Int)::(y1++zeros D)):=by rw[yC (x:=exx D x m T) (by rw[xW h hE hT];omega)];refine⟨⟨by omega,?_⟩,bU⟩;show(a:Int)<at0 (exx D x m T).zA l;rw[tI h hE hT hk];exact mb
    rw[c3 D m T hE hT (zNr h hE hT (by omega) hc),show y1++tv m.Prime D m T tr1=adK m.Prime D (x.zA.length-(l+1)) (y1++zeros D) (tv m.Prime D m T tr1)from by rw[zA0 h hE hT (by omega) c2,wW ht],<-zBY h hE hT hk,zQL h hE hT hk hc hz aP ht,zUA (by omega)];rfl
   have foV:∀(D:Nat)(m:zB)(T:Mx)(hE:ExB x.zA.length D x m T)(hT:∀i,i<T.length->Row m.Prime D (T.getD i []))(_hc:xU (suf (exx D x m T) (l+1))),V (suf (exx D x m T) (l+1)) (fo (exx D x m T) (l+1) (zeros ((exx D x m T).zA.length-(l+1))) (cwd x l (nw (l+1) y1).reverse)):=fun D m T hE hT _hc=>zSc h hE hT hk pN (zOY h hE hT (by omega))
   rcases Jk (a+1) (yG x l)with g2|g2
   ·obtain⟨tr2,y2,d1,d2,d3⟩:=zQO hk P z eS (a+1) g2 (cwd x l (nw (l+1) y1).reverse) pN
    refine⟨_,y2,k1.trans (k2.trans d1),d2,fun D m T hE hT hc=>?_⟩;have hp:=hE.m.p.pos;have bU:=zE2 h hE hT (k:=l+1) (by omega) c2 (xD (p:=m.Prime) (D:=D));have g3:(a:Int)+1<at0 x.zA l:=by have:a+1<(at0 x.zA l).toNat:=g2;omega
    have hF:=foV D m T hE hT hc;have aP:V (suf (exx D x m T) l) (((a:Int)+1)::fo (exx D x m T) (l+1) (zeros ((exx D x m T).zA.length-(l+1))) (cwd x l (nw (l+1) y1).reverse)):=by rw[yC (x:=exx D x m T) (by rw[xW h hE hT];omega)];refine⟨⟨by omega,?_⟩,hF⟩;show(a:Int)+1<at0 (exx D x m T).zA l;rw[tI h hE hT hk];exact g3
    have hd:=zOZ (D:=D) (x:=x) (m:=m) (T:=T) (k:=l) (by omega) (nw (l+1) y1).reverse;have d3':=d3 D m T hE hT hc;rw[show(((a+1:Nat):Int))=(a:Int)+1 from by omega]at d3';rw[val D m T hE hT hc,zHr h hE hT hk hc bU,if_neg (by omega),zQN h hE hT hk hc c2,<-zBY h hE hT hk,zQL h hE hT hk hc eS aP hd,d3',zA0 h hE hT (by omega) d2,zA0 h hE hT (by omega) d2,<-zPa (by omega),zJh (by omega),zJh (by omega),uD,uD (u:=tv m.Prime D m T tr2)]
   ·have g4:a+1=yG x l:=by omega
    have pJ:=zAd h hk;have pL:=qE h pJ hk;have aY:∀b∈nw 0 (x.zJ.getD l [])++cwd x l (nw (l+1) y1).reverse,l+1<=b/\b<x.zA.length:=fun b hb=>by
     simp only[Jf]at hb;rcases hb with hb|hb
     ·exact pL.2 b hb
     ·exact pN b hb
    obtain⟨tr2,y2,d1,d2,d3⟩:=zQO hk P z eS 0 (by omega) _ aY;rw[Hb,Jv,Jh]at d1;have k3:Col x l (J1 (a+1) l++(cwd x l (nw (l+1) y1).reverse++z)) ((l,cwd x l (nw (l+1) y1).reverse++z)::tr2) (nw l y2):=by
     refine .step (fun b hb=>?_) (by rw[g4];exact yAh (zJi h hk) _) d1;simp only[Jf]at hb;rcases hb with hb|hb|hb
     ·have:=He hb;omega
     ·have:=pN b hb;omega
     ·exact eS b hb
    refine⟨_,y2,k1.trans (k2.trans k3),d2,fun D m T hE hT hc=>?_⟩;have hp:=hE.m.p.pos;have bU:=zE2 h hE hT (k:=l+1) (by omega) c2 (xD (p:=m.Prime) (D:=D));have g3:(a:Int)+1=at0 x.zA l:=by have:a+1=(at0 x.zA l).toNat:=g4;omega
    have hF:=foV D m T hE hT hc;have hd:=zOZ (D:=D) (x:=x) (m:=m) (T:=T) (k:=l) (by omega) (nw (l+1) y1).reverse;have eI:=zDb h hE hT hk;have co:V (suf x (l+1)) ((x.zJ.getD l []).drop (l+1)):=zAk pJ hk;have pH:=zE2 h hE hT (k:=l+1) (by omega) co (xD (p:=m.Prime) (D:=D));have hw:(lvl (exx D x m T) l).w=adK m.Prime D (x.zA.length-(l+1)) ((x.zJ.getD l []).drop (l+1)++zeros D) (T.getD l []):=by rw[zIX h hE hT hk,zA0 h hE hT (by omega) co,wW eI];rfl
    have fS:=zSb h hE hT hk;have hFw:=zSc h hE hT hk aY (zOY h hE hT (by omega));have em:mul (suf (exx D x m T) (l+1)) (lvl (exx D x m T) l).w (fo (exx D x m T) (l+1) (zeros ((exx D x m T).zA.length-(l+1))) (cwd x l (nw (l+1) y1).reverse))=adK m.Prime D (x.zA.length-(l+1)) (fo (exx D x m T) (l+1) (zeros ((exx D x m T).zA.length-(l+1))) (nw 0 (x.zJ.getD l [])++cwd x l (nw (l+1) y1).reverse)) (xG m.Prime D (T.getD l []) (wM m.Prime D m.zF (cwd x l (nw (l+1) y1).reverse) (idM D))):=by rw[<-zJn h hE hT hk hc pN fS,hw,zUC h hE hT hk hc pN pH eI,<-zJl h hE hT _ (l+1) (by omega:l+1+(x.zA.length-(l+1))=x.zA.length) hc _ co,<-zDQ,<-pL.1]
    have aP:V (suf (exx D x m T) l) ((0:Int)::fo (exx D x m T) (l+1) (zeros ((exx D x m T).zA.length-(l+1))) (nw 0 (x.zJ.getD l [])++cwd x l (nw (l+1) y1).reverse)):=by rw[yC (x:=exx D x m T) (by rw[xW h hE hT];omega)];refine⟨⟨by omega,?_⟩,hFw⟩;show(0:Int)<at0 (exx D x m T).zA l;rw[tI h hE hT hk];omega
    have d3':=d3 D m T hE hT hc;rw[show(((0:Nat):Int))=0 from rfl]at d3';rw[val D m T hE hT hc,zHr h hE hT hk hc bU,if_pos (by omega),zQN h hE hT hk hc c2,zNp h hE hT hk hc hF hd fS,em,yAi h hE hT (by omega) hFw,g3,Int.sub_self,<-zBY h hE hT hk,zQL h hE hT hk hc eS aP (sU),d3',zA0 h hE hT (by omega) d2,zA0 h hE hT (by omega) d2,zBG,<-zPa (by omega),<-zFT (by omega),zJh (by omega),zJh (by omega)];show y2++adv m.Prime D (adv m.Prime D (tv m.Prime D m T tr2) (adv m.Prime D _ _)) _=y2++adv m.Prime D _ (adv m.Prime D _ (adv m.Prime D _ (tv m.Prime D m T tr2)));rw[uD,uD (u:=tv m.Prime D m T tr2),uD (u:=xG m.Prime D (T.getD l []) _),tP]
theorem zYg:∀(d k:Nat),k+d=x.zA.length-> ∀z:List Nat,(∀a∈z,k<=a/\a<x.zA.length)-> ∃tr y,sD x k z tr y
 |0,k,hk,z,hz=>by
  have:z=[]:=by
   cases z with
   |nil=>rfl
   |cons a z=>have:=hz a (by simp);omega
  subst this;refine⟨[],[],.refl _,by rw[vN (x:=x) (k:=k)];rfl,fun D m T hE hT _=>?_⟩;show zeros _=[]++zeros D;rw[zJk h hE hT (by omega),show x.zA.length-k=0 from by omega];rfl
 |d+1,k,hk,z,hz=>by have ho:=zJi h (show k<x.zA.length by omega);obtain⟨tr,y,c1,c2,c3⟩:=zQO h (by omega) (zYg d (k+1) (by omega)) z hz 0 (by omega) [] (by simp);refine⟨tr,y,by grind,c2,fun D m T hE hT hc=>?_⟩;rw[<-c3 D m T hE hT hc];have hl:=xW h hE hT;rw[show(exx D x m T).zA.length-k=(exx D x m T).zA.length-(k+1)+1 from by omega];rfl
end
section
variable {D:Nat}{x:SPr}{m:zB}{T:Mx} (h:Pres x) (hE:ExB x.zA.length D x m T) (hT:∀i,i<T.length->Row m.Prime D (T.getD i []))
 include h hE hT
variable {k:Nat} (hk:k<x.zA.length) (hc:xU (suf (exx D x m T) (k+1)))
 include hk hc
theorem zHJ{w1 w2:List Nat}{t1 t2:List (Nat×List Nat)}{y1 y2:Vec}(k1:sD x k w1 t1 y1)(k2:sD x k w2 t2 y2){r1 r2:Nat}{s1 s2:List Nat}{b:Int}{A1 A2:Vec}(hA1:V (suf (exx D x m T) (k+1)) A1)(hA2:V (suf (exx D x m T) (k+1)) A2)
  (v1:fo (exx D x m T) k (zeros ((exx D x m T).zA.length-k)) w1=b::A1)(v2:fo (exx D x m T) k (zeros ((exx D x m T).zA.length-k)) w2=b::A2)
  (eI:(adK m.Prime D (x.zA.length-(k+1)) A1 (xG m.Prime D (T.getD r1 []) (wM m.Prime D m.zF s1 (idM D)))).take (x.zA.length-(k+1))=(adK m.Prime D (x.zA.length-(k+1)) A2 (xG m.Prime D (T.getD r2 []) (wM m.Prime D m.zF s2 (idM D)))).take (x.zA.length-(k+1))):
  y1=y2/\(tv m.Prime D m T ((r1,s1)::t1)=tv m.Prime D m T ((r2,s2)::t2)↔adK m.Prime D (x.zA.length-(k+1)) A1 (xG m.Prime D (T.getD r1 []) (wM m.Prime D m.zF s1 (idM D)))=adK m.Prime D (x.zA.length-(k+1)) A2 (xG m.Prime D (T.getD r2 []) (wM m.Prime D m.zF s2 (idM D)))):=by
 have _:=hA1;have _:=hA2;have key:∀(w:List Nat)(t:List (Nat×List Nat))(y:Vec)(A:Vec)(r:Nat)(s:List Nat),sD x k w t y->fo (exx D x m T) k (zeros ((exx D x m T).zA.length-k)) w=b::A->
   b::adK m.Prime D (x.zA.length-(k+1)) A (xG m.Prime D (T.getD r []) (wM m.Prime D m.zF s (idM D)))=y++tv m.Prime D m T ((r,s)::t):=by
  intro w t y A r s kc v;rw[<-zBY h hE hT hk,<-v,kc.val D m T hE hT hc,zA0 h hE hT (by omega) kc.v,uD];rfl
 have e1:=key w1 t1 y1 A1 r1 s1 k1 v1;have e2:=key w2 t2 y2 A2 r2 s2 k2 v2;have l1:=vC h (by omega) k1.v;have l2:=vC h (by omega) k2.v;have hy:y1=y2:=by
  have a1:=congrArg (Ja0 (x.zA.length-(k+1)+1)) e1;have a2:=congrArg (Ja0 (x.zA.length-(k+1)+1)) e2
  grind
 subst hy;refine⟨rfl,?_⟩;constructor
 all_goals grind[List.append_cancel_left]
theorem zFg{v:List Nat}(hv:∀a∈v,k+1<=a/\a<x.zA.length){z:List Nat}:fo (exx D x m T) k (zeros ((exx D x m T).zA.length-k)) (v++k::z)=fo (exx D x m T) k ((1:Int)::sig (suf (exx D x m T) (k+1)) (lvl (exx D x m T) k) (fo (exx D x m T) (k+1) (zeros ((exx D x m T).zA.length-(k+1))) v)) z:=by
 have ho:=(h.os.2 k hk).pos;have hl:=xW h hE hT;have hF:=zSc h hE hT hk hv (zOY h hE hT (by omega));rw[show zeros ((exx D x m T).zA.length-k)=0::zeros ((exx D x m T).zA.length-(k+1))from by rw[show(exx D x m T).zA.length-k=(exx D x m T).zA.length-(k+1)+1 from by omega];rfl,zDQ,zJm h hE hT hk hc (by omega) v _ hv,sW,zHr h hE hT hk hc hF,if_neg (by omega)];rfl
 omit hc in
theorem zFU{y:Vec}(hy:V (suf x (k+1)) y):sig (suf (exx D x m T) (k+1)) (lvl (exx D x m T) k) (y++zeros D)=(nw (k+1) y).foldl (fun acc j=>mul (suf (exx D x m T) (k+1)) acc ((lvl (exx D x m T) k).cs.getD (j-(k+1)) [])) (zeros ((exx D x m T).zA.length-(k+1))):=by
  have hp:=hE.m.p.pos;have ef:=vC h (by omega) hy;rw[zDa h hE hT hk hy (xD),kF];obtain⟨y1,u1,e,fj,ct⟩:=(sV h hE hT (x.zA.length-(k+1)) (k+1) (by omega) _).1 (zIZ h hE hT hk (y:=y));have gT:=vC h (by omega) fj;rw[e,Jr gT,K4 gT,zAz ct,<-e];unfold sgG;rw[yK];refine zJj _ (fun j=>(lvl (exx D x m T) k).cs.getD (j-(k+1)) []) [] _ _ _ _ (fun j hj=>?_) (by grind[jT])
  grind[zCZ]
 omit hc in
theorem zNs{j:Nat}(h1:k+1<=j)(h2:j<x.zA.length):V (suf (exx D x m T) (k+1)) ((lvl (exx D x m T) k).cs.getD (j-(k+1)) []):=by
  have gy:V (suf x (k+1)) ((lcj x k j).drop (k+1)):=by grind[zAk,uJ]
  rw[zJb h hE hT hk h1 h2,show(lvl x k).cs.getD (j-(k+1)) []=(lcj x k j).drop (k+1)from map_drop]
  grind[zE2,zEG]
theorem zNt:∀{v:List Nat},(∀a∈v,k+1<=a/\a<x.zA.length)-> ∀{e f:Vec},V (suf (exx D x m T) (k+1)) e->V (suf (exx D x m T) (k+1)) f->v.foldl (fun acc j=>mul (suf (exx D x m T) (k+1)) acc ((lvl (exx D x m T) k).cs.getD (j-(k+1)) [])) (mul (suf (exx D x m T) (k+1)) e f)=mul (suf (exx D x m T) (k+1)) e (v.foldl (fun acc j=>mul (suf (exx D x m T) (k+1)) acc ((lvl (exx D x m T) k).cs.getD (j-(k+1)) [])) f)
 | [],_,_,_,_,_=>rfl
 |a::w,hw,e,f,he,hf=>by have gA:=uH h hE hT (k:=k+1) (by omega);have G:=(zD7 _ gA hc).toMon;have hg:=zNs h hE hT hk (hw a (by simp)).1 (hw a (by simp)).2;simp only[Gb];rw[G.assoc he hf hg,zNt (by grind) he (G.cl hf hg)]
theorem csE{j:Nat}(h1:k+1<=j)(h2:j<x.zA.length):V (suf x (k+1)) ((lcj x k j).drop (k+1))/\(lvl (exx D x m T) k).cs.getD (j-(k+1)) []=adK m.Prime D (x.zA.length-(k+1)) ((lcj x k j).drop (k+1)++zeros D) (T.getD (base x.zA.length k+(j-(k+1))) [])/\
  fo (exx D x m T) (k+1) (zeros ((exx D x m T).zA.length-(k+1))) (nw 0 (lcj x k j))=(lcj x k j).drop (k+1)++zeros D/\(∀a∈nw 0 (lcj x k j),k+1<=a/\a<x.zA.length):=by
 have gy:V (suf x (k+1)) ((lcj x k j).drop (k+1)):=by grind[zAk,uJ]
 have cV:=qE h (uJ h (show k<j by omega) h2) hk;refine⟨gy,?_,?_,cV.2⟩
 ·rw[zJb h hE hT hk h1 h2,show(lvl x k).cs.getD (j-(k+1)) []=(lcj x k j).drop (k+1)from map_drop,zA0 h hE hT (by omega) gy,wW (zEG h hE hT (by omega) h2)]
 ·rw[cV.1];exact zJl h hE hT _ (k+1) (by omega:k+1+(x.zA.length-(k+1))=x.zA.length) hc _ gy
theorem wE:V (suf x (k+1)) ((x.zJ.getD k []).drop (k+1))/\(lvl (exx D x m T) k).w=adK m.Prime D (x.zA.length-(k+1)) ((x.zJ.getD k []).drop (k+1)++zeros D) (T.getD k [])/\
  fo (exx D x m T) (k+1) (zeros ((exx D x m T).zA.length-(k+1))) (nw 0 (x.zJ.getD k []))=(x.zJ.getD k []).drop (k+1)++zeros D/\(∀a∈nw 0 (x.zJ.getD k []),k+1<=a/\a<x.zA.length):=by
 have co:V (suf x (k+1)) ((x.zJ.getD k []).drop (k+1)):=zAk (zAd h hk) hk;have pL:=qE h (zAd h hk) hk;refine⟨co,?_,?_,pL.2⟩
 ·rw[zIX h hE hT hk,zA0 h hE hT (by omega) co,wW (zDb h hE hT hk)];rfl
 ·rw[pL.1];exact zJl h hE hT _ (k+1) (by omega:k+1+(x.zA.length-(k+1))=x.zA.length) hc _ co
 omit hc in
theorem zL3{a:Nat}(ha:a<x.zA.length):wM m.Prime D m.zF [a] (idM D)=m.zF.getD a []:=by have _:=h;have _:=hT;have _:=hk;show PM m.Prime D (idM D) (m.zF.getD a [])=_;exact zBU (hE.m.mat a ha)
theorem zUF(hL:LC x k){t1 t2:List (Nat×List Nat)}{y1 y2:Vec}(k1:sD x k (nw 0 (x.zJ.getD k [])++[k]) t1 y1)(k2:sD x k (k::nw 0 (x.zJ.getD k [])) t2 y2):
  y1=y2/\(tv m.Prime D m T ((k,[k])::t1)=tv m.Prime D m T ((k,[])::t2)↔sig (suf (exx D x m T) (k+1)) (lvl (exx D x m T) k) (lvl (exx D x m T) k).w=(lvl (exx D x m T) k).w):=by
 have hp:=hE.m.p.pos;have ho:=(h.os.2 k hk).pos;obtain⟨w1,w2,w3,w4⟩:=wE h hE hT hk hc;have eI:=zDb h hE hT hk;have pH:=zE2 h hE hT (k:=k+1) (by omega) w1 (xD (p:=m.Prime) (D:=D));have fS:=zSb h hE hT hk;have v1:=zFg h hE hT hk hc w4 (z:=[]);rw[w3]at v1;have v2:=zFg h hE hT hk hc (v:=[]) (by simp) (z:=nw 0 (x.zJ.getD k []));have hz:fo (exx D x m T) (k+1) (zeros ((exx D x m T).zA.length-(k+1))) []=zeros ((exx D x m T).zA.length-(k+1)):=rfl;have hs:sig (suf (exx D x m T) (k+1)) (lvl (exx D x m T) k) (zeros ((exx D x m T).zA.length-(k+1)))=zeros ((exx D x m T).zA.length-(k+1)):=by grind[sig,qI,yK]
 rw[hz,hs,zJm h hE hT hk hc (by omega) _ _ w4,w3]at v2;have e1:adK m.Prime D (x.zA.length-(k+1)) (sig (suf (exx D x m T) (k+1)) (lvl (exx D x m T) k) ((x.zJ.getD k []).drop (k+1)++zeros D)) (xG m.Prime D (T.getD k []) (wM m.Prime D m.zF [k] (idM D)))=sig (suf (exx D x m T) (k+1)) (lvl (exx D x m T) k) (lvl (exx D x m T) k).w:=by grind[zL3,zJg]
 have e2:adK m.Prime D (x.zA.length-(k+1)) ((x.zJ.getD k []).drop (k+1)++zeros D) (xG m.Prime D (T.getD k []) (wM m.Prime D m.zF [] (idM D)))=(lvl (exx D x m T) k).w:=by rw[show wM m.Prime D m.zF [] (idM D)=idM D from rfl,jN eI,w2]
 obtain⟨hy,this⟩:=zHJ h hE hT hk hc k1 k2 (r1:=k) (r2:=k) (s1:=[k]) (s2:=[]) (zBH h hE hT hk pH) pH v1 v2 (by rw[e1,e2,zFd h hE hT hk fS,zIX h hE hT hk,Jr (by have:=vC h (by omega) w1;exact this)];exact hL.c3)
 refine⟨hy,?_⟩
 grind
end
theorem yAl:∀(a o:Nat)(b:Int)(c:Vec),nw o (zeros a++b::c)=J1 b.toNat (o+a)++nw (o+a+1) c
 |0,o,b,c=>rfl
 |a+1,o,b,c=>by rw[show zeros (a+1)++b::c=0::(zeros a++b::c)from rfl];simp only[nw,Ge,Hb,Jv];rw[yAl a (o+1) b c,show o+1+a=o+(a+1)from by omega]
theorem zL4{os v:List Int}{j k:Nat}(hv:Exp os v j)(hk:k<=j):Exp os v k:=⟨hv.1,fun i hi=>hv.2 i (by omega)⟩
section
variable {x:SPr} (h:Pres x)
 include h
theorem yAm:∀(a k:Nat){b:Int}{c:Vec},k+a<x.zA.length->0<=b->b<at0 x.zA (k+a)->V (suf x (k+a+1)) c->V (suf x k) (zeros a++b::c)
 |0,k,b,c,ha,h0,h1,hc=>by rw[yC (x:=x)];exact⟨⟨h0,h1⟩,hc⟩
 |a+1,k,b,c,ha,h0,h1,hc=>by
  have:=(h.os.2 k (by omega)).pos;rw[yC (x:=x)];refine⟨⟨Int.le_refl 0,?_⟩,?_⟩
  ·show(0:Int)<at0 x.zA k
   omega
  ·exact yAm a (k+1) (by omega) h0 (by grind) (by grind)
end
section
variable {D:Nat}{x:SPr}{m:zB}{T:Mx} (h:Pres x) (hE:ExB x.zA.length D x m T) (hT:∀i,i<T.length->Row m.Prime D (T.getD i []))
 include h hE hT
variable {k:Nat} (hk:k<x.zA.length) (hc:xU (suf (exx D x m T) (k+1)))
 include hk hc
theorem zPb{j:Nat}(h1:k+1<=j)(h2:j<x.zA.length){b:Int}(h0:0<=b)(hb:b<at0 x.zA j){c:Vec}(pD:V (suf x (j+1)) c):V (suf x (k+1)) (zeros (j-(k+1))++b::c)/\nw (k+1) (zeros (j-(k+1))++b::c)=J1 b.toNat j++nw (j+1) c/\
  fo (exx D x m T) (k+1) (zeros ((exx D x m T).zA.length-(k+1))) (J1 b.toNat j++nw (j+1) c)=(zeros (j-(k+1))++b::c)++zeros D:=by
 have e:k+1+(j-(k+1))=j:=by omega
 have hv:V (suf x (k+1)) (zeros (j-(k+1))++b::c):=by grind[yAm]
 have hn:nw (k+1) (zeros (j-(k+1))++b::c)=J1 b.toNat j++nw (j+1) c:=by rw[yAl,e]
 refine⟨hv,hn,?_⟩;rw[<-hn];exact zJl h hE hT _ (k+1) (by omega:k+1+(x.zA.length-(k+1))=x.zA.length) hc _ hv
theorem zQP{e:Vec}(he:V (suf (exx D x m T) (k+1)) e):mul (suf (exx D x m T) (k+1)) (zeros ((exx D x m T).zA.length-(k+1))) e=e:=by
 have G:=(zD7 _ (uH h hE hT (k:=k+1) (by omega)) hc).toMon;have:=G.onel he
 grind[yK]
theorem zQQ{j:Nat}(h1:k+1<=j)(h2:j<x.zA.length):fo (exx D x m T) (k+1) (zeros ((exx D x m T).zA.length-(k+1))) [j]=xE ((exx D x m T).zA.length-(k+1)) (j-(k+1))/\sig (suf (exx D x m T) (k+1)) (lvl (exx D x m T) k) (xE ((exx D x m T).zA.length-(k+1)) (j-(k+1)))=(lvl (exx D x m T) k).cs.getD (j-(k+1)) []:=by
 have ho:=(h.os.2 j h2).pos;have hz:V (suf x (j+1)) (zeros (x.zA.length-(j+1))):=by have:=wG (h.okAt (k:=j+1) (by omega));grind[yK]
 obtain⟨v1,v2,v3⟩:=zPb h hE hT hk hc h1 h2 (b:=1) (by omega) (by omega) hz;have hn:nw (j+1) (zeros (x.zA.length-(j+1)))=[]:=zDN _ _;rw[hn]at v2 v3;have hf:fo (exx D x m T) (k+1) (zeros ((exx D x m T).zA.length-(k+1))) [j]=xE ((exx D x m T).zA.length-(k+1)) (j-(k+1)):=zQP h hE hT hk hc (zDR h hE hT h1 h2);refine⟨hf,?_⟩;rw[<-hf];have v3':fo (exx D x m T) (k+1) (zeros ((exx D x m T).zA.length-(k+1))) [j]=_:=v3
 grind[zFU,zQP,zNs]
theorem zUG(hL:LC x k){j:Nat}(h1:k+1<=j)(h2:j<x.zA.length){t1 t2:List (Nat×List Nat)}{y1 y2:Vec}(k1:sD x k (nw 0 (x.zJ.getD j [])++[k]) t1 y1)(k2:sD x k (J1 (yG x j-1) j++k::nw 0 (lcj x k j)) t2 y2):
  y1=y2/\(tv m.Prime D m T ((j,[k])::t1)=tv m.Prime D m T ((base x.zA.length k+(j-(k+1)),[])::t2)↔c1E (exx D x m T) k j):=by
 have hp:=hE.m.p.pos;have ho:=(h.os.2 k hk).pos;have hj:=(h.os.2 j h2).pos;have pJ:=zL4 (zAd h h2) (show k<=j by omega);have co:V (suf x (k+1)) ((x.zJ.getD j []).drop (k+1)):=zAk pJ hk;have pL:=qE h pJ hk;have tm:=zDb h hE hT h2;have pH:=zE2 h hE hT (k:=k+1) (by omega) co (xD (p:=m.Prime) (D:=D));obtain⟨c1,c2,c3,c4⟩:=csE h hE hT hk hc h1 h2;have cz:=zE2 h hE hT (k:=k+1) (by omega) c1 (xD (p:=m.Prime) (D:=D));have hcV:=zNs h hE hT hk h1 h2;have eI:=zEG h hE hT (show k<j by omega) h2;have mc:V (suf x (j+1)) (zeros (x.zA.length-(j+1))):=by have:=wG (h.okAt (k:=j+1) (by omega));rwa [yK]at this
 obtain⟨u1,u2,u3⟩:=zPb h hE hT hk hc h1 h2 (b:=at0 x.zA j-1) (by omega) (by omega) mc;rw[zDN,J9,show(at0 x.zA j-1).toNat=yG x j-1 from by show _=(at0 x.zA j).toNat-1;omega]at u2 u3;have gA:=uH h hE hT (k:=k+1) (by omega);have G:=(zD7 _ gA hc).toMon;have v1:=zFg h hE hT hk hc pL.2 (z:=[]);rw[pL.1,zJl h hE hT _ (k+1) (by omega:k+1+(x.zA.length-(k+1))=x.zA.length) hc _ co,<-pL.1]at v1;have hr:∀a∈J1 (yG x j-1) j,k+1<=a/\a<x.zA.length:=fun a ha=>by have:=He ha;omega
 have v2:=zFg h hE hT hk hc hr (z:=nw 0 (lcj x k j));have uq:∀q(e:Vec),(J1 q j).foldl (fun acc j=>mul (suf (exx D x m T) (k+1)) acc ((lvl (exx D x m T) k).cs.getD (j-(k+1)) [])) e=iter q (fun v=>mul (suf (exx D x m T) (k+1)) v ((lvl (exx D x m T) k).cs.getD (j-(k+1)) [])) e:=by
  intro q
  induction q with
  |zero=>intro e;rfl
  |succ q ih=>intro e;rw[Jt,Gb,ih];rfl
 have hpq:sig (suf (exx D x m T) (k+1)) (lvl (exx D x m T) k) (fo (exx D x m T) (k+1) (zeros ((exx D x m T).zA.length-(k+1))) (J1 (yG x j-1) j))=pw (mul (suf (exx D x m T) (k+1))) (zeros (suf (exx D x m T) (k+1)).length) ((lvl (exx D x m T) k).cs.getD (j-(k+1)) []) (yG x j-1):=by rw[u3,zFU h hE hT hk u1,u2,uq,yK];rfl
 have ia:V (suf (exx D x m T) (k+1)) (pw (mul (suf (exx D x m T) (k+1))) (zeros (suf (exx D x m T) (k+1)).length) ((lvl (exx D x m T) k).cs.getD (j-(k+1)) []) (yG x j-1)):=tU G hcV _;rw[hpq,zJm h hE hT hk hc (by omega) _ _ c4,zJn h hE hT hk hc c4 ia,c3]at v2;have e1:adK m.Prime D (x.zA.length-(k+1)) (sig (suf (exx D x m T) (k+1)) (lvl (exx D x m T) k) ((x.zJ.getD j []).drop (k+1)++zeros D)) (xG m.Prime D (T.getD j []) (wM m.Prime D m.zF [k] (idM D)))=sig (suf (exx D x m T) (k+1)) (lvl (exx D x m T) k) (((exx D x m T).zJ.getD j []).drop (k+1)):=by rw[zL3 h hE hT hk hk,zFb h hE hT (by omega) h2,<-zJg h hE hT hk pH tm,zA0 h hE hT (by omega) co,wW tm]
 have e2:adK m.Prime D (x.zA.length-(k+1)) (mul (suf (exx D x m T) (k+1)) (pw (mul (suf (exx D x m T) (k+1))) (zeros (suf (exx D x m T) (k+1)).length) ((lvl (exx D x m T) k).cs.getD (j-(k+1)) []) (yG x j-1)) ((lcj x k j).drop (k+1)++zeros D)) (xG m.Prime D (T.getD (base x.zA.length k+(j-(k+1))) []) (wM m.Prime D m.zF [] (idM D)))=pw (mul (suf (exx D x m T) (k+1))) (zeros (suf (exx D x m T) (k+1)).length) ((lvl (exx D x m T) k).cs.getD (j-(k+1)) []) (at0 (exx D x m T).zA j).toNat:=by
  rw[show wM m.Prime D m.zF [] (idM D)=idM D from rfl,jN eI,<-zNp h hE hT hk hc cz eI ia,<-c2,tI h hE hT h2,show(at0 x.zA j).toNat=(yG x j-1)+1 from by show _=(at0 x.zA j).toNat-1+1;omega]
  conv=>rhs;rw[pw,vF]
  rfl
 have fF:V (suf (exx D x m T) (k+1)) (((exx D x m T).zJ.getD j []).drop (k+1)):=by rw[zFb h hE hT (by omega) h2];exact zE2 h hE hT (by omega) co tm
 obtain⟨hy,this⟩:=zHJ h hE hT hk hc k1 k2 (r1:=j) (r2:=base x.zA.length k+(j-(k+1))) (s1:=[k]) (s2:=[]) (zBH h hE hT hk pH) (yU gA ia cz) v1 v2 (by rw[e1,e2,zFd h hE hT hk fF,zJe h hE hT hk (by omega) h2,yAg h hE hT (by omega) hcV,zKx h hE hT hk h1 h2,tI h hE hT h2];exact(hL.c1 j h1 h2).symm)
 rw[e1,e2]at this;refine⟨hy,?_⟩;rw[this];exact eq_comm
theorem zUH(hL:LC x k){i j:Nat}(h1:k+1<=i)(gR:i<j)(h2:j<x.zA.length){t1 t2:List (Nat×List Nat)}{y1 y2:Vec}(k1:sD x k (i::(nw 0 (lcj x i j)++[k])) t1 y1)(k2:sD x k (j::k::nw 0 (lcj x k i)) t2 y2):
  y1=y2/\(tv m.Prime D m T ((base x.zA.length i+(j-(i+1)),[k])::t1)=tv m.Prime D m T ((base x.zA.length k+(i-(k+1)),[])::t2)↔c2E (exx D x m T) k i j):=by
 have hp:=hE.m.p.pos;have ho:=(h.os.2 k hk).pos;have hi:=(h.os.2 i (by omega)).pos;have mZ:=uJ h gR h2;have dw:=zL4 mZ (show k<=i by omega);have aI:V (suf x (k+1)) ((lcj x i j).drop (k+1)):=zAk dw hk;have iK:V (suf x (i+1)) ((lcj x i j).drop (i+1)):=zAk mZ;have hn:=qE h dw hk;have hni:=qE h mZ (by omega);have tp:=zEG h hE hT gR h2;have dE:=zE2 h hE hT (k:=k+1) (by omega) aI (xD (p:=m.Prime) (D:=D));obtain⟨c1,c2,c3,c4⟩:=csE h hE hT hk hc h1 (show i<x.zA.length by omega);have cz:=zE2 h hE hT (k:=k+1) (by omega) c1 (xD (p:=m.Prime) (D:=D));have ca:=zNs h hE hT hk h1 (show i<x.zA.length by omega);have pY:=zNs h hE hT hk (show k+1<=j by omega) h2;have eI:=zEG h hE hT (show k<i by omega) (show i<x.zA.length by omega);have gA:=uH h hE hT (k:=k+1) (by omega);obtain⟨u1,u2,u3⟩:=zPb h hE hT hk hc h1 (show i<x.zA.length by omega) (b:=1) (by omega) (by omega) iK;rw[<-hni.1,show J1 (1:Int).toNat i++nw 0 (lcj x i j)=i::nw 0 (lcj x i j)from rfl]at u2 u3;have hr:∀a∈i::nw 0 (lcj x i j),k+1<=a/\a<x.zA.length:=fun a ha=>by
  simp only[Jb]at ha;rcases ha with rfl|ha
  ·omega
  ·exact hn.2 a ha
 have v1:=zFg h hE hT hk hc hr (z:=[]);have es:sig (suf (exx D x m T) (k+1)) (lvl (exx D x m T) k) (fo (exx D x m T) (k+1) (zeros ((exx D x m T).zA.length-(k+1))) (i::nw 0 (lcj x i j)))=mul (suf (exx D x m T) (k+1)) ((lvl (exx D x m T) k).cs.getD (i-(k+1)) []) (sig (suf (exx D x m T) (k+1)) (lvl (exx D x m T) k) ((lcj x i j).drop (k+1)++zeros D)):=by rw[u3,zFU h hE hT hk u1,u2,Gb,zQP h hE hT hk hc ca,zFU h hE hT hk aI,<-hn.1];have:=zNt h hE hT hk hc hn.2 ca (zOY h hE hT (k:=k+1) (by omega));rw[yBM h hE hT (by omega) ca]at this;exact this
 rw[es]at v1;have v2:=zFg h hE hT hk hc (v:=[j]) (fun a ha=>by simp only[List.mem_singleton]at ha;omega) (z:=nw 0 (lcj x k i));obtain⟨g1,g2⟩:=zQQ h hE hT hk hc (show k+1<=j by omega) h2;rw[g1,g2,zJm h hE hT hk hc (by omega) _ _ c4,zJn h hE hT hk hc c4 pY,c3]at v2;have cR:=zBH h hE hT hk dE;have fw:((((exx D x m T).zC.getD i []).getD (j-(i+1)) []).drop (k+1))=adK m.Prime D (x.zA.length-(k+1)) ((lcj x i j).drop (k+1)++zeros D) (T.getD (base x.zA.length i+(j-(i+1))) []):=by rw[zGG h hE hT (by omega) gR h2,zA0 h hE hT (by omega) aI,wW tp]
 have e1:adK m.Prime D (x.zA.length-(k+1)) (mul (suf (exx D x m T) (k+1)) ((lvl (exx D x m T) k).cs.getD (i-(k+1)) []) (sig (suf (exx D x m T) (k+1)) (lvl (exx D x m T) k) ((lcj x i j).drop (k+1)++zeros D))) (xG m.Prime D (T.getD (base x.zA.length i+(j-(i+1))) []) (wM m.Prime D m.zF [k] (idM D)))=mul (suf (exx D x m T) (k+1)) ((lvl (exx D x m T) k).cs.getD (i-(k+1)) []) (sig (suf (exx D x m T) (k+1)) (lvl (exx D x m T) k) ((((exx D x m T).zC.getD i []).getD (j-(i+1)) []).drop (k+1))):=by rw[zL3 h hE hT hk hk,<-zNp h hE hT hk hc cR (vA) ca,<-zJg h hE hT hk dE tp,<-fw]
 have e2:adK m.Prime D (x.zA.length-(k+1)) (mul (suf (exx D x m T) (k+1)) ((lvl (exx D x m T) k).cs.getD (j-(k+1)) []) ((lcj x k i).drop (k+1)++zeros D)) (xG m.Prime D (T.getD (base x.zA.length k+(i-(k+1))) []) (wM m.Prime D m.zF [] (idM D)))=mul (suf (exx D x m T) (k+1)) ((lvl (exx D x m T) k).cs.getD (j-(k+1)) []) ((lvl (exx D x m T) k).cs.getD (i-(k+1)) []):=by rw[show wM m.Prime D m.zF [] (idM D)=idM D from rfl,jN eI,<-zNp h hE hT hk hc cz eI pY,<-c2]
 have aK:V (suf (exx D x m T) (k+1)) ((((exx D x m T).zC.getD i []).getD (j-(i+1)) []).drop (k+1)):=by rw[fw];exact yBN h hE hT (by omega) dE
 obtain⟨hy,this⟩:=zHJ h hE hT hk hc k1 k2 (r1:=base x.zA.length i+(j-(i+1))) (r2:=base x.zA.length k+(i-(k+1))) (s1:=[k]) (s2:=[]) (yU gA ca cR) (yU gA pY cz) v1 v2 (by rw[e1,e2,zDd h hE hT (by omega) ca (zBH h hE hT hk aK),zDd h hE hT (by omega) pY ca,zFd h hE hT hk aK,zKx h hE hT hk h1 (by omega),zKx h hE hT hk (by omega) h2,zU1 h hE hT hk h1 gR h2];exact(hL.c2 i h1 (by omega) j (by omega) h2).symm)
 rw[e1,e2]at this;refine⟨hy,?_⟩;rw[this];exact eq_comm
end
section
variable {D:Nat}{x:SPr}{m:zB}{T:Mx} (h:Pres x) (hE:ExB x.zA.length D x m T) (hT:∀i,i<T.length->Row m.Prime D (T.getD i []))
 include h hE hT
variable {k:Nat} (hk:k<x.zA.length) (hc:xU (suf (exx D x m T) (k+1)))
 include hk hc
 omit hc in
theorem zPc:∀(q:Nat){e:Vec},V (suf (exx D x m T) (k+1)) e->V (suf (exx D x m T) (k+1)) (iter q (sig (suf (exx D x m T) (k+1)) (lvl (exx D x m T) k)) e)
  |0,_,he=>he
  |q+1,_,he=>zPc q (zBH h hE hT hk he)
 omit hc in
theorem yAn:∀(q:Nat){e d:Vec},V (suf (exx D x m T) (k+1)) e->Row m.Prime D d->iter q (sig (suf (exx D x m T) (k+1)) (lvl (exx D x m T) k)) (adK m.Prime D (x.zA.length-(k+1)) e d)=adK m.Prime D (x.zA.length-(k+1)) (iter q (sig (suf (exx D x m T) (k+1)) (lvl (exx D x m T) k)) e) (xG m.Prime D d (wM m.Prime D m.zF (J1 q k) (idM D)))
  |0,e,d,_,hd=>by show adK _ _ _ e d=adK _ _ _ e (xG m.Prime D d (idM D));rw[jN hd]
  |q+1,e,d,he,hd=>by have hp:=hE.m.p.pos;show iter q _ (sig _ _ (adK _ _ _ e d))=adK _ _ _ (iter q _ (sig _ _ e)) _;rw[zJg h hE hT hk he hd,yAn q (zBH h hE hT hk he) (vA),Jt,show k::J1 q k=[k]++J1 q k from rfl,zFT (by omega),zL3 h hE hT hk hk]
theorem zUI:∀(q:Nat){c:Int}{e:Vec},0<=c->c+(q:Int)<at0 x.zA k->V (suf (exx D x m T) (k+1)) e->fo (exx D x m T) k (c::e) (J1 q k)=(c+(q:Int))::iter q (sig (suf (exx D x m T) (k+1)) (lvl (exx D x m T) k)) e
 |0,c,e,_,_,_=>by show c::e=(c+((0:Nat):Int))::e;simp
 |q+1,c,e,h0,h1,he=>by
  rw[Jt,sW,zHr h hE hT hk hc he,if_neg (by omega),zUI q (by omega) (by omega) (zBH h hE hT hk he)]
  grind[iter]
theorem zUJ(hL:LC x k){j:Nat}(h1:k+1<=j)(h2:j<x.zA.length){t1 t2:List (Nat×List Nat)}{y1 y2:Vec}(k1:sD x k (k::(nw 0 (lcj x k j)++J1 (yG x k-1) k)) t1 y1)(k2:sD x k (j::nw 0 (x.zJ.getD k [])) t2 y2):
  y1=y2/\(tv m.Prime D m T ((base x.zA.length k+(j-(k+1)),J1 (yG x k-1) k)::t1)=tv m.Prime D m T ((k,[])::t2)↔c4E (exx D x m T) k j):=by
 have hp:=hE.m.p.pos;have ho:=(h.os.2 k hk).pos;have hon:(yG x k:Int)=at0 x.zA k:=by grind
 obtain⟨w1,w2,w3,w4⟩:=wE h hE hT hk hc;have pH:=zE2 h hE hT (k:=k+1) (by omega) w1 (xD (p:=m.Prime) (D:=D));have fS:=zSb h hE hT hk;have eI:=zDb h hE hT hk;obtain⟨c1,c2,c3,c4⟩:=csE h hE hT hk hc h1 h2;have cz:=zE2 h hE hT (k:=k+1) (by omega) c1 (xD (p:=m.Prime) (D:=D));have tm:=zEG h hE hT (show k<j by omega) h2;have gA:=uH h hE hT (k:=k+1) (by omega);have hg:=zDR h hE hT h1 h2;obtain⟨g1,g2⟩:=zQQ h hE hT hk hc h1 h2;have hz:fo (exx D x m T) (k+1) (zeros ((exx D x m T).zA.length-(k+1))) []=zeros ((exx D x m T).zA.length-(k+1)):=rfl;have hs:sig (suf (exx D x m T) (k+1)) (lvl (exx D x m T) k) (zeros ((exx D x m T).zA.length-(k+1)))=zeros ((exx D x m T).zA.length-(k+1)):=by grind[sig,qI,yK]
 have hl:=xW h hE hT;have v1:=zFg h hE hT hk hc (v:=[]) (by simp) (z:=nw 0 (lcj x k j)++J1 (yG x k-1) k);rw[hz,hs]at v1;have v0:=v1.trans (zDQ (e:=exx D x m T) (k:=k) (u:=(1:Int)::zeros ((exx D x m T).zA.length-(k+1))) (v:=nw 0 (lcj x k j)) (w:=J1 (yG x k-1) k));rw[zJm h hE hT hk hc (by omega) _ _ c4,c3]at v0;have ew:=zPc h hE hT hk (yG x k-2) cz;have v1':fo (exx D x m T) k (zeros ((exx D x m T).zA.length-k)) (k::(nw 0 (lcj x k j)++J1 (yG x k-1) k))=0::mul (suf (exx D x m T) (k+1)) (lvl (exx D x m T) k).w (iter (yG x k-1) (sig (suf (exx D x m T) (k+1)) (lvl (exx D x m T) k)) ((lcj x k j).drop (k+1)++zeros D)):=by
  refine v0.trans ?_;rw[show yG x k-1=(yG x k-2)+1 from by omega,Kz,zDQ,zUI h hE hT hk hc (yG x k-2) (by omega) (by omega) cz];show mul _ _ _=_;rw[zHr h hE hT hk hc ew,if_pos (by omega),vF]
  grind
 have hr:∀a∈j::nw 0 (x.zJ.getD k []),k+1<=a/\a<x.zA.length:=by grind
 have v2:fo (exx D x m T) k (zeros ((exx D x m T).zA.length-k)) (j::nw 0 (x.zJ.getD k []))=0::mul (suf (exx D x m T) (k+1)) (xE ((exx D x m T).zA.length-(k+1)) (j-(k+1))) ((x.zJ.getD k []).drop (k+1)++zeros D):=by rw[show zeros ((exx D x m T).zA.length-k)=0::zeros ((exx D x m T).zA.length-(k+1))from by rw[show(exx D x m T).zA.length-k=(exx D x m T).zA.length-(k+1)+1 from by omega];rfl,zJm h hE hT hk hc (by omega) _ _ hr,sW,zQP h hE hT hk hc hg,zJn h hE hT hk hc w4 hg,w3]
 have e1:adK m.Prime D (x.zA.length-(k+1)) (mul (suf (exx D x m T) (k+1)) (lvl (exx D x m T) k).w (iter (yG x k-1) (sig (suf (exx D x m T) (k+1)) (lvl (exx D x m T) k)) ((lcj x k j).drop (k+1)++zeros D))) (xG m.Prime D (T.getD (base x.zA.length k+(j-(k+1))) []) (wM m.Prime D m.zF (J1 (yG x k-1) k) (idM D)))=mul (suf (exx D x m T) (k+1)) (lvl (exx D x m T) k).w (iter (lvl (exx D x m T) k).o.toNat (sig (suf (exx D x m T) (k+1)) (lvl (exx D x m T) k)) (xE ((exx D x m T).zA.length-(k+1)) (j-(k+1)))):=by rw[<-zNp h hE hT hk hc (zPc h hE hT hk _ cz) (vA) fS,<-yAn h hE hT hk _ cz tm,<-c2,<-g2,zC7 h hE hT hk,show(at0 x.zA k).toNat=(yG x k-1)+1 from by omega];rfl
 have e2:adK m.Prime D (x.zA.length-(k+1)) (mul (suf (exx D x m T) (k+1)) (xE ((exx D x m T).zA.length-(k+1)) (j-(k+1))) ((x.zJ.getD k []).drop (k+1)++zeros D)) (xG m.Prime D (T.getD k []) (wM m.Prime D m.zF [] (idM D)))=mul (suf (exx D x m T) (k+1)) (xE ((exx D x m T).zA.length-(k+1)) (j-(k+1))) (lvl (exx D x m T) k).w:=by rw[show wM m.Prime D m.zF [] (idM D)=idM D from rfl,jN eI,<-zNp h hE hT hk hc pH eI hg,<-w2]
 have dP:(lvl (exx D x m T) k).w.take (x.zA.length-(k+1))=(lvl x k).w:=zJe h hE hT hk (Je k) hk;have eQ:(xE (x.zA.length-(k+1)) (j-(k+1))).length=x.zA.length-(k+1):=by simp[xE,zeros]
 obtain⟨hy,this⟩:=zHJ h hE hT hk hc k1 k2 (r1:=base x.zA.length k+(j-(k+1))) (r2:=k) (s1:=J1 (yG x k-1) k) (s2:=[]) (yU gA fS (zPc h hE hT hk _ cz)) (yU gA hg pH) v1' v2 (by rw[e1,e2,zDd h hE hT (by omega) fS (zPc h hE hT hk _ hg),zDd h hE hT (by omega) hg fS,zLx h hE hT hk _ hg,dP,zU2 h hE hT hk h1 h2,Jr eQ,zC7 h hE hT hk];exact hL.c4 j h1 h2)
 rw[e1,e2]at this;exact⟨hy,this⟩
end
structure zL5 (x:SPr) (k:Nat) (r1:Nat) (s1 w1:List Nat) (r2:Nat) (s2 w2:List Nat) (t1 t2:List (Nat×List Nat)):Prop where
 a:∃u1 y1,t1=(r1,s1)::u1/\sD x k w1 u1 y1
 b:∃u2 y2,t2=(r2,s2)::u2/\sD x k w2 u2 y2
structure yAo (x:SPr) (D:Nat) (m:zB) (T:Mx):Prop where
 p1:∀k j,k<j->j<x.zA.length-> ∀t1 t2,zL5 x k j [k] (nw 0 (x.zJ.getD j [])++[k]) (base x.zA.length k+(j-(k+1))) [] (J1 (yG x j-1) j++k::nw 0 (lcj x k j)) t1 t2->tv m.Prime D m T t1=tv m.Prime D m T t2
 p2:∀k i j,k<i->i<j->j<x.zA.length-> ∀t1 t2,zL5 x k (base x.zA.length i+(j-(i+1))) [k] (i::(nw 0 (lcj x i j)++[k])) (base x.zA.length k+(i-(k+1))) [] (j::k::nw 0 (lcj x k i)) t1 t2->tv m.Prime D m T t1=tv m.Prime D m T t2
 p3:∀k,k<x.zA.length-> ∀t1 t2,zL5 x k k [k] (nw 0 (x.zJ.getD k [])++[k]) k [] (k::nw 0 (x.zJ.getD k [])) t1 t2->tv m.Prime D m T t1=tv m.Prime D m T t2
 p4:∀k j,k<j->j<x.zA.length-> ∀t1 t2,zL5 x k (base x.zA.length k+(j-(k+1))) (J1 (yG x k-1) k) (k::(nw 0 (lcj x k j)++J1 (yG x k-1) k)) k [] (j::nw 0 (x.zJ.getD k [])) t1 t2->tv m.Prime D m T t1=tv m.Prime D m T t2
section
variable {D:Nat}{x:SPr}{m:zB}{T:Mx} (h:Pres x) (hE:ExB x.zA.length D x m T) (hT:∀i,i<T.length->Row m.Prime D (T.getD i []))
 include h hE hT
theorem zGL{k:Nat}(hk:k<x.zA.length)(hL:LC x k)(hc:xU (suf (exx D x m T) (k+1))):LCn x (exx D x m T) k↔
  (∀j,k<j->j<x.zA.length-> ∀t1 t2,zL5 x k j [k] (nw 0 (x.zJ.getD j [])++[k]) (base x.zA.length k+(j-(k+1))) [] (J1 (yG x j-1) j++k::nw 0 (lcj x k j)) t1 t2->tv m.Prime D m T t1=tv m.Prime D m T t2)/\
  (∀i j,k<i->i<j->j<x.zA.length-> ∀t1 t2,zL5 x k (base x.zA.length i+(j-(i+1))) [k] (i::(nw 0 (lcj x i j)++[k])) (base x.zA.length k+(i-(k+1))) [] (j::k::nw 0 (lcj x k i)) t1 t2->tv m.Prime D m T t1=tv m.Prime D m T t2)/\
  (∀t1 t2,zL5 x k k [k] (nw 0 (x.zJ.getD k [])++[k]) k [] (k::nw 0 (x.zJ.getD k [])) t1 t2->tv m.Prime D m T t1=tv m.Prime D m T t2)/\
  (∀j,k<j->j<x.zA.length-> ∀t1 t2,zL5 x k (base x.zA.length k+(j-(k+1))) (J1 (yG x k-1) k) (k::(nw 0 (lcj x k j)++J1 (yG x k-1) k)) k [] (j::nw 0 (x.zJ.getD k [])) t1 t2->tv m.Prime D m T t1=tv m.Prime D m T t2):=by
 have hC:=fun(w:List Nat)(hw:∀a∈w,k<=a/\a<x.zA.length)=>zYg h (x.zA.length-k) k (by omega) w hw
 have fw:∀i j,i<j->j<x.zA.length-> ∀a∈nw 0 (lcj x i j),i+1<=a/\a<x.zA.length:=fun i j hi hj=>(qE h (uJ h hi hj) (by omega)).2
 have fF:∀i,i<x.zA.length-> ∀a∈nw 0 (x.zJ.getD i []),i+1<=a/\a<x.zA.length:=fun i hi=>(qE h (zAd h hi) hi).2
 constructor
 ·intro g
  refine⟨?_,?_,?_,?_⟩
  ·rintro j h1 h2 t1 t2 ⟨⟨u1,y1,rfl,k1⟩,⟨u2,y2,rfl,k2⟩⟩
   exact(zUG h hE hT hk hc hL (by omega) h2 k1 k2).2.2 (g.c1 j (by omega) h2)
  ·rintro i j h1 gR h2 t1 t2 ⟨⟨u1,y1,rfl,k1⟩,⟨u2,y2,rfl,k2⟩⟩
   exact(zUH h hE hT hk hc hL (by omega) gR h2 k1 k2).2.2 (g.c2 i (by omega) (by omega) j (by omega) h2)
  ·rintro t1 t2 ⟨⟨u1,y1,rfl,k1⟩,⟨u2,y2,rfl,k2⟩⟩
   exact(zUF h hE hT hk hc hL k1 k2).2.2 g.c3
  ·rintro j h1 h2 t1 t2 ⟨⟨u1,y1,rfl,k1⟩,⟨u2,y2,rfl,k2⟩⟩
   exact(zUJ h hE hT hk hc hL (by omega) h2 k1 k2).2.2 (g.c4 j (by omega) h2)
 ·rintro⟨g1,g2,g3,g4⟩
  refine⟨fun j h1 h2=>?_,fun i h1 hi j gR h2=>?_,?_,fun j h1 h2=>?_⟩
  ·obtain⟨u1,y1,k1⟩:=hC (nw 0 (x.zJ.getD j [])++[k]) (fun a ha=>by
    simp only[Jf,List.mem_singleton]at ha;rcases ha with ha|rfl
    ·grind
    ·omega)
   obtain⟨u2,y2,k2⟩:=hC (J1 (yG x j-1) j++k::nw 0 (lcj x k j)) (fun a ha=>by
    simp only[Jf,Jb]at ha;rcases ha with ha|rfl|ha
    ·grind
    ·omega
    grind)
   exact(zUG h hE hT hk hc hL h1 h2 k1 k2).2.1 (g1 j (by omega) h2 _ _ ⟨⟨u1,y1,rfl,k1⟩,⟨u2,y2,rfl,k2⟩⟩)
  ·obtain⟨u1,y1,k1⟩:=hC (i::(nw 0 (lcj x i j)++[k])) (fun a ha=>by
    simp only[Jf,Jb,Qh,or_false]at ha;rcases ha with rfl|ha|rfl
    ·omega
    ·grind
    ·omega)
   obtain⟨u2,y2,k2⟩:=hC (j::k::nw 0 (lcj x k i)) (fun a ha=>by
    simp only[Jb]at ha;rcases ha with rfl|rfl|ha
    ·omega
    ·omega
    grind)
   exact(zUH h hE hT hk hc hL h1 (by omega) h2 k1 k2).2.1 (g2 i j (by omega) (by omega) h2 _ _ ⟨⟨u1,y1,rfl,k1⟩,⟨u2,y2,rfl,k2⟩⟩)
  ·obtain⟨u1,y1,k1⟩:=hC (nw 0 (x.zJ.getD k [])++[k]) (fun a ha=>by
    simp only[Jf,List.mem_singleton]at ha;rcases ha with ha|rfl
    ·grind
    ·omega)
   obtain⟨u2,y2,k2⟩:=hC (k::nw 0 (x.zJ.getD k [])) (fun a ha=>by
    simp only[Jb]at ha;rcases ha with rfl|ha
    ·omega
    grind)
   exact(zUF h hE hT hk hc hL k1 k2).2.1 (g3 _ _ ⟨⟨u1,y1,rfl,k1⟩,⟨u2,y2,rfl,k2⟩⟩)
  ·obtain⟨u1,y1,k1⟩:=hC (k::(nw 0 (lcj x k j)++J1 (yG x k-1) k)) (fun a ha=>by
    simp only[Jf,Jb]at ha;rcases ha with rfl|ha|ha
    ·omega
    ·grind
    grind)
   obtain⟨u2,y2,k2⟩:=hC (j::nw 0 (x.zJ.getD k [])) (fun a ha=>by
    simp only[Jb]at ha;rcases ha with rfl|ha
    ·omega
    grind)
   exact(zUJ h hE hT hk hc hL h1 h2 k1 k2).2.1 (g4 j (by omega) h2 _ _ ⟨⟨u1,y1,rfl,k1⟩,⟨u2,y2,rfl,k2⟩⟩)
theorem zSd(hx:xU (suf x 0))(hr:zC3 x m D):yAo x D m T↔xU (suf (exx D x m T) 0):=by
 have hl:=xW h hE hT;have cK:∀k,k<x.zA.length->LC x k:=fun k hk=>((qZ h.w hk).1 (zAt hx k)).2
 constructor
 ·intro g
  have key:∀(d k:Nat),k+d=x.zA.length->xU (suf (exx D x m T) k):=by
   intro d
   induction d with
   |zero=>grind[zDO]
   |succ d ih=>
    intro k hk;have hc:=ih (k+1) (by omega);refine(qZ (zEq h hE hT) (by omega)).2 ⟨hc,zOW h hE hT hr (by omega) ((zGL h hE hT (by omega) (cK k (by omega)) hc).2 ⟨?_,?_,?_,?_⟩)⟩
    ·exact fun j h1 h2 t1 t2 b=>g.p1 k j h1 h2 t1 t2 b
    ·exact fun i j h1 gR h2 t1 t2 b=>g.p2 k i j h1 gR h2 t1 t2 b
    ·exact fun t1 t2 b=>g.p3 k (by omega) t1 t2 b
    ·exact fun j h1 h2 t1 t2 b=>g.p4 k j h1 h2 t1 t2 b
  simp_all
 ·intro g
  have g0:=(zLu h hE hT hr).1 g;have hck:∀k,k<x.zA.length->xU (suf (exx D x m T) (k+1)):=by grind[zAt]
  have key:=fun k(hk:k<x.zA.length)=>(zGL h hE hT hk (cK k hk) (hck k hk)).1 (g0 k hk)
  exact⟨fun k j h1 h2=>(key k (by omega)).1 j h1 h2,fun k i j h1 gR h2=>(key k (by omega)).2.1 i j h1 gR h2,fun k hk=>(key k hk).2.2.1,fun k j h1 h2=>(key k (by omega)).2.2.2 j h1 h2⟩
end
theorem Col.det{x:SPr}{k k':Nat}{w:List Nat}{t1 t2:List (Nat×List Nat)}{w1 w2:List Nat}(h1:Col x k w t1 w1)(h2:Col x k' w t2 w2)(n1:stS x w1=iY)(n2:stS x w2=iY):t1=t2/\w1=w2:=by
 induction h1 generalizing t2 with
 |refl w=>
  cases h2 with
  |refl=>simp
  |step _ hs _=>grind
 |step hw hs hc ih=>
  cases h2 with
  |refl=>grind
  |step _ pd fy=>
   grind
end Go.Pl
