/- x -/
import Derived.Test.YtchnmobojdcikaaGreatRPlC
open List renaming replicate→J1,getD_eq_getElem?_getD→J2,length_replicate→Ja,getElem?_set→Jau
open Bool renaming not_true->Jq,not_false->Kb
open Int renaming emod_emod->Jy
open Option renaming getD_some->Gp
open Option renaming some->iW,none->iY
open Bool renaming true->iZ,false->ja
namespace Go.Pl
open Go Go.Ab Go.Wk Go.Pc
theorem yCa{c:List Int}{s:zE}(hs:Src s)(e:zSD c=iW s):Ans (zZz c) fun r=>DrP r.1/\DrM r.2.1/\r.2.2.1.length<=1000/\r.2.2.2.length<=1000:=by
 unfold zZz;rw[e,bs];refine .bd (zVl hs) fun r hr=>?_
 obtain⟨x,m,T,t⟩:=r;obtain⟨hx,hm,hT,ht⟩:=hr;simp only at hx hm hT ht;have bQ:=hT.1;rcases zGQ hx hm with⟨D,h⟩|⟨s1,_⟩
 ·have h3:=h.ok.d3
  have h1:=h.ok.d1;have h7:=h.ok.p.pos;have h6:=h.gr.2.2.n6;have eW:=zQJ h.gr.2.2 h.ok;rw[h.sp,bs,Jq,zM];rcases kR h.gr.2.2 h.ok (T:=T) (by omega)with⟨e,hT⟩|⟨e,_⟩
  ·rw[e,bs,Jq,zM]
   obtain⟨t1,t2,_⟩:=tD h.gr.2.2 h.ok hT;have fin:∀{v:List Int},Row m.Prime (x.zA.length*D) v->Ans ((f_M T).bind fun r17=>(f_R v m.Dim).bind fun r18=>(f_y x m r18).bind fun r19=>(f_M r19).bind fun r20=>(f_A m.Prime r17 1 r20).bind fun r21=>(f_R r21 m.Dim).bind fun r22=>iW (x,m,T,r22)) fun r=>DrP r.1/\DrM r.2.1/\r.2.2.1.length<=1000/\r.2.2.2.length<=1000:=fun{v} hv=>by have hV:=zIS hv;have hc:=zGS h (vals:=zAh x.zA.length D v) h6;obtain⟨c1,c2,_⟩:=tD h.gr.2.2 h.ok hc;have hr:Row m.Prime (base x.zA.length x.zA.length*D) (wQ m.Prime (base x.zA.length x.zA.length*D) T.flatten 1 (cob x m D (zAh x.zA.length D v)).flatten):=uC h.ok.p;have eO:=xY x.zA.length (by omega);rw[t2,bs,h.ok.d,zC6 h1 (by omega) hv.1,bs,zEZ h.gr.1 h.ok hV,bs,c2,bs,vJ h.ok.p t1 c1 (by omega) (by omega),bs,zC6 h1 (by omega) hr.1,bs];exact .rt ⟨hx,hm,bQ,by simp only[zAh,xI];omega⟩
   refine .bd (yV ht) fun r hr=>.cd (fun _=>.bd (zRg hr.1 h) fun v hv=>.rt ⟨hx,hm,bQ,by have:v.1.length=base x.zA.length x.zA.length:=hv.2.1;have eO:=xY x.zA.length (by omega);simp only;omega⟩) fun _=>?_
   have hz:Row m.Prime (x.zA.length*D) (J1 (x.zA.length*D) (0:Int)):=by have:=zBD (p:=m.Prime) (D:=x.zA.length*D);exact this
   rw[show(x.zA.length:Int)*m.Dim=((x.zA.length*D:Nat):Int)from by rw[h.ok.d];simp,zG,bs,yP,bs];refine .cd (fun hl=>?_) fun _=>fin hz
   simp only[decide_eq_true_eq,Ja]at hl;rw[Ja];refine .bd (yV hr.1) fun r2 gF=>?_
   obtain⟨i,hi⟩:∃i:Nat,r2.1=i:=⟨r2.1.toNat,by omega⟩;rw[hi,yJ (by rw[Ja];omega),bs];refine fin ⟨by simp,fun j hj=>?_⟩;have:=hz.2 j hj;rw[at0,J2,Jau];split
   ·split
    ·exact⟨by decide,by simp only[Gp];omega⟩
    ·exact⟨by decide,by show(0:Int)<=_;omega⟩
   ·exact this
  ·rw[e,bs,Kb,zK]
   exact .rt ⟨hx,hm,bQ,bQ⟩
 ·rw[s1,bs,Kb,zK]
  exact .rt ⟨hx,hm,bQ,bQ⟩
theorem zN4(c:List Int)(hb:∀i(h:i<c.length),0<=c[i]/\c[i]<=255):zZ1 c=iW iZ:=by
 unfold zZ1 yCx;refine zVi hb (P:=fun r=>DrP r.1/\DrM r.2.1/\r.2.2.1.length<=1000/\r.2.2.2.length<=1000) (fun s hs e=>.bd (yCa hs e) fun r hr=>.rt hr) fun r hr=>?_
 obtain⟨x,m,A,B⟩:=r;obtain⟨hx,hm,hA,hB⟩:=hr;simp only at hx hm hA hB ⊢
 rcases zGQ hx hm with⟨D,h⟩|⟨s1,i1⟩
 ·obtain⟨k,e1,e2,e3⟩:=zKy (A:=A) (B:=B) (L:=[A,B]) h.spres h.smod (by omega) (by omega) (by simp) (fun t=>by simp)
  by_cases g:k=0
  ·obtain⟨_,D',hD',_,cA,cB⟩:=e3 g
   have:D'=D:=by have:=hD'.d;have:=h.ok.d;omega
   subst this;have h3:=h.ok.d3;have h1:=h.ok.d1;have h7:=h.ok.p.pos;have gH:=h.gr.2.2;have eW:=zQJ gH h.ok;have eO:=xY x.zA.length (by have:=gH.n6;omega);obtain⟨R,pv,r1,r2,r3⟩:=zSl h;obtain⟨K,k1,k2⟩:=zSk h;obtain⟨a1,a2,a3⟩:=tD gH h.ok cA.1;obtain⟨b1,b2,b3⟩:=tD gH h.ok cB.1;have fN:=cA.1.1;have aU:=cB.1.1;have red:∀{T:Mx},Coc x m D' T->Row m.Prime (base x.zA.length x.zA.length*D') (cl m.Prime (base x.zA.length x.zA.length*D') R pv T.flatten R.length)/\Coc x m D' (zAh (base x.zA.length x.zA.length) D' (cl m.Prime (base x.zA.length x.zA.length*D') R pv T.flatten R.length))/\(zAh (base x.zA.length x.zA.length) D' (cl m.Prime (base x.zA.length x.zA.length*D') R pv T.flatten R.length)).flatten=cl m.Prime (base x.zA.length x.zA.length*D') R pv T.flatten R.length:=fun{T} hT=>by have hf:=(tD gH h.ok hT.1).1;have gy:=zAy h.ok.p (by omega) r1 hf R.length;have hts:=(zIS gy).ts;have bO:=zUY h1 gy.1;refine⟨gy,⟨hts,?_⟩,bO⟩;have e:=(k1 _ gy).1 (tN (k:=1) (k2 _ ((r2 _).1 (zDW h.ok.p (by omega) r1 hf))) ((k1 _ hf).2 (by rw[zLF hT.1];exact hT.2)) fun j hj=>by rw[zT hj];congr 1;omega);have e2:=zLF hts;rw[bO]at e2;rw[e2]at e;exact e
   have rs:∀{T:Mx},Coc x m D' T->zWw x m T=iW (zAh (base x.zA.length x.zA.length) D' (cl m.Prime (base x.zA.length x.zA.length*D') R pv T.flatten R.length),0)/\zWy x m T=iW (zAh (base x.zA.length x.zA.length) D' (cl m.Prime (base x.zA.length x.zA.length*D') R pv T.flatten R.length),0):=fun{T} hT=>by obtain⟨c1,c2⟩:=zGT h hT hT;obtain⟨t1,t2,t3⟩:=tD gH h.ok hT.1;unfold zWw zWy;simp only[c1,c2 [T] (by simp) (fun t=>by simp),bs,t2,t3,(r3 _ t1).1,(r3 _ t1).2,bne_self_eq_false,zM,and_self]
   have bsum:∀{T U:Mx},Coc x m D' T->Coc x m D' U->zYJ x m T U=iW (zAh (base x.zA.length x.zA.length) D' (cl m.Prime (base x.zA.length x.zA.length*D') R pv (wQ m.Prime (base x.zA.length x.zA.length*D') T.flatten 1 U.flatten) R.length),0)/\zWz x m T U=iW (zAh (base x.zA.length x.zA.length) D' (cl m.Prime (base x.zA.length x.zA.length*D') R pv (wQ m.Prime (base x.zA.length x.zA.length*D') T.flatten 1 U.flatten) R.length),0):=fun{T U} hT hU=>by obtain⟨c1,c2⟩:=zGT h hT hU;obtain⟨t1,t2,t3⟩:=tD gH h.ok hT.1;obtain⟨u1,u2,u3⟩:=tD gH h.ok hU.1;have gX:Row m.Prime (base x.zA.length x.zA.length*D') (wQ m.Prime (base x.zA.length x.zA.length*D') T.flatten 1 U.flatten):=uC h.ok.p;unfold zYJ zWz;rw[c1,c2 [T,U] (by simp) (fun t=>by simp),bs,bs,show((0:Int) != 0)=ja from rfl,zM,zM,t2,bs,u2,bs,vJ h.ok.p t1 u1 (by omega) (by omega),bs,(r3 _ gX).1,bs,t3,bs,u3,bs,qK h.ok.p t1 u1 (by omega) (by omega),bs,(r3 _ gX).2,bs];exact⟨rfl,rfl⟩
   obtain⟨ok,o1,o2,o3⟩:=zRj h cA cB;obtain⟨fr,fc,ff⟩:=red cA;obtain⟨gr,gc,gf⟩:=red cB;obtain⟨ok2,_,p2,p3⟩:=zRj h cA fc;have fd:ok2=iZ:=p3.2 ((r2 _).1 (tN (k:=-1) (zAa (u:=zeros 0) fun j _=>by rw[vG];simp) (zDW h.ok.p (by omega) r1 a1) fun j hj=>by rw[wQ,zT hj,ff,zT hj,vG,Jy];congr 1;omega))
   subst fd;have gA:ok=iZ↔zAh (base x.zA.length x.zA.length) D' (cl m.Prime (base x.zA.length x.zA.length*D') R pv A.flatten R.length)=zAh (base x.zA.length x.zA.length) D' (cl m.Prime (base x.zA.length x.zA.length*D') R pv B.flatten R.length):=by
    rw[o3,<-r2];constructor
    ·intro q
     rw[zRh h.ok.p (by omega) r1 b1 a1 (zTZ q fun j hj=>by rw[zT hj,wQ,zT hj,Jy];congr 1;omega)]
    ·intro q
     have q2:=congrArg List.flatten q;rw[ff,gf]at q2;refine tN (k:=-1) (zDW h.ok.p (by omega) r1 b1) (zDW h.ok.p (by omega) r1 a1) fun j hj=>?_
     rw[wQ,zT hj,zT hj,zT hj,q2,Jy];congr 1;omega
   have dS:cl m.Prime (base x.zA.length x.zA.length*D') R pv (wQ m.Prime (base x.zA.length x.zA.length*D') (cl m.Prime (base x.zA.length x.zA.length*D') R pv B.flatten R.length) 1 (cl m.Prime (base x.zA.length x.zA.length*D') R pv A.flatten R.length)) R.length=cl m.Prime (base x.zA.length x.zA.length*D') R pv (wQ m.Prime (base x.zA.length x.zA.length*D') A.flatten 1 B.flatten) R.length:=
    zRh h.ok.p (by omega) r1 (uC h.ok.p) (uC h.ok.p) (tN (k:=1) (zDW h.ok.p (by omega) r1 b1) (zDW h.ok.p (by omega) r1 a1) fun j hj=>by rw[zT hj,zT hj,zT hj,wQ,zT hj,wQ,zT hj,Int.emod_sub_emod,Int.sub_emod_emod];congr 1;omega)
   have lk:∀{v:List Int},Row m.Prime (base x.zA.length x.zA.length*D') v-> ∀W:Mx,zLP (zAh (base x.zA.length x.zA.length) D' v) W=iW (zAh (base x.zA.length x.zA.length) D' v==W):=fun hv W=>(zIS hv).like (by omega) (by omega)
   have hsr:=zAy h.ok.p (by omega) r1 (uC h.ok.p (r:=A.flatten) (k:=1) (s:=B.flatten)) R.length;rw[o2,bs,o1,bs];simp only[bne_self_eq_false,zM];rw[(rs cA).2,bs,(rs cB).2,bs,(rs cA).1,bs,(rs cB).1,bs];simp only[bne_self_eq_false,zM,lk fr,lk gr,bs,beq_self_eq_true,Jq];have hbe:(zAh (base x.zA.length x.zA.length) D' (cl m.Prime (base x.zA.length x.zA.length*D') R pv A.flatten R.length)==zAh (base x.zA.length x.zA.length) D' (cl m.Prime (base x.zA.length x.zA.length*D') R pv B.flatten R.length))=ok:=by
    cases ok with
    |true=>rw[gA.1 rfl,beq_self_eq_true]
    |false=>exact beq_eq_false_iff_ne.2 fun q=>absurd (gA.2 q) (by simp)
   rw[hbe,bne_self_eq_false,zM,p2,bs,(bsum cA cB).2,bs,(bsum gc fc).2,bs,(bsum cA cB).1,bs,ff,gf,dS];simp only[beq_self_eq_true,zK,lk hsr,bs]
  ·unfold zP4 zS7
   rw[e1,e2,bs,bs,kZ g,zK,zK,bs,bs];simp only[bne_self_eq_false,zM,kZ g,zK];rfl
 ·unfold zP4 zS7 f_S zJD
  simp only[s1,i1,bs,Kb,zK];rfl
theorem zCC(c:List Int)(h:VL VU c):zZ1 c=iW iZ:=zN4 c (vu h)
end Go.Pl
