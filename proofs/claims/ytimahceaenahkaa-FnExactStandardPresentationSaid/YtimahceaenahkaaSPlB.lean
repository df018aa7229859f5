/- x -/
import Derived.Test.YtimahceaenahkaaSPlA
open List renaming replicate→J1,getD_eq_getElem?_getD→J4,getElem?_eq_getElem→J5,mem_map→J7,append_assoc→Jb,map_cons→Jc,getElem?_map→Jf,eq_nil_of_length_eq_zero→Ji,length_map→Jl,length_cons→Jn,getElem?_replicate→Js,range→Jz,mem_range→K9,set_append_right→Kg,map_append→Kn,getElem?_set_self→Ky,ext_getElem?→L0,getElem?_range→L4,mem_append→Lg,length_set→Lq,replicate_succ'→Ha,getElem?_set_ne→Hd,getElem?_eq_none→Gf,ext_getElem→Uh,nodup_range→Q0,mem_iff_getElem→Q2
open Nat renaming zero_add→J8,le_refl→Jg,mul_le_mul_right→Jp,le_trans→Ke,succ_mul→Kl,mul_le_mul→L6,pow_le_pow_right→Lf,mul_le_mul_left→Ln,mul_succ→Lo,lt_or_ge→Ho,sub_zero→G8,pow_succ→G9,mul_comm→Ga,pow_le_pow_left→U0,mul_pos→Uq,mul_one→Ur,add_comm→Q7,mod_eq_of_lt→Qa
open Int renaming toNat_natCast→Jj,natCast_mul→L1
open Bool renaming not_true→Ju,not_false→La
open Option renaming getD_some→Kc,map_some→Lh
open Option renaming some→df,none→dg
open Bool renaming true→dh,false→di
namespace Go.Pl
open Go Go.Ab Go.Wk Go.Pc GrT
section
variable {x:SPr}{w:Pres x∧xD (suf x 0)}{N:Nat} (hN:pr x.zA x.zA.length=(N:Int)) (gc:N≤1000) {q n:Nat}{t:List (EA x w)}{X:EA x w}
noncomputable def Wv (q A:Nat) (t:List (EA x w)) (X:EA x w) (K J:Nat) (a:EA x w):List Int:=match xpo q (X::t) a with
 |some (k::e)=>if k<(K:Int)∨(k=(K:Int)∧nE (vl t e)<J)then J1 A 0++k::e else[]
 |_=>[]
def OT(q A N:Nat)(t:List (EA x w))(X:EA x w)(K J:Nat)(out:Mx):Prop:=out.length=N∧ ∀a:EA x w,ixO out ((nE a:Nat):Int)=df (Wv q A t X K J a)
theorem vC(A K J:Nat)(a:EA x w):(xpo q (X::t) a=dg∧Wv q A t X K J a=[])∨ ∃k e,xpo q (X::t) a=df (k::e)∧0≤k∧k<(q:Int)∧Ex q t.length e∧pg X k.toNat*vl t e=a∧Wv q A t X K J a=if k<(K:Int)∨(k=(K:Int)∧nE (vl t e)<J)then J1 A 0++k::e else[]:=by
 unfold Wv;cases he:xpo q (X::t) a with
 |none=>exact .inl ⟨rfl,rfl⟩
 |some f=>
  right;obtain⟨h1,h2⟩:=wO he;cases f with
  |nil=>exact absurd h1.1 (by simp)
  |cons k e=>
   rw[Jn,tV]at h1;exact⟨k,e,rfl,h1.1.1,h1.1.2,h1.2,h2,rfl⟩
 include hN gc
variable (eb:2≤q) (hu:∀d,0<d→d<q→ ∃u v,u*d=1+q*v) (hT:Tw q (X::t))
 include eb hu hT
 omit eb hu hT in
theorem zMH{A K J:Nat}{b:EA x w}(hb:nE b=J)(he:xpo q t b=dg)(a:EA x w):Wv q A t X K (J+1) a=Wv q A t X K J a:=by
  rcases vC (q:=q) (t:=t) (X:=X) A K (J+1) a with⟨h1,h2⟩|⟨k,e,h1,h2,h3,h4,h5,h6⟩
  · rcases vC (q:=q) (t:=t) (X:=X) A K J a with⟨_,h4⟩|⟨k,e,h4,_⟩
    ·rw[h2,h4]
    ·rw[h1]at h4;cases h4
  · rcases vC (q:=q) (t:=t) (X:=X) A K J a with⟨h7,_⟩|⟨k',e',h7,_,_,_,_,h8⟩
    ·rw[h1]at h7;cases h7
    · rw[h1]at h7
      simp at h7;obtain⟨rfl,rfl⟩:=h7;rw[h6,h8];have:nE (vl t e)≠J:=fun h=>uA.1 he ⟨e,h4,tW hN gc (h.trans hb.symm)⟩
      have ei:(k<(K:Int)∨(k=(K:Int)∧nE (vl t e)<J+1))↔(k<(K:Int)∨(k=(K:Int)∧nE (vl t e)<J)):=by omega
      simp only[ei]
 omit hN gc in
theorem zMI{K:Nat}(hK:K<q){b:EA x w}{e:List Int}(he:xpo q t b=df e):xpo q (X::t) (pg X K*b)=df ((K:Int)::e):=by
  obtain⟨h1,h2⟩:=wO he;have hx:Ex q (X::t).length ((K:Int)::e):=by rw[Jn,tV];exact⟨⟨by omega,by omega⟩,h1⟩
  have hv:vl (X::t) ((K:Int)::e)=pg X K*b:=by rw[vl,h2];rfl
  have hh:Hh q (X::t) (pg X K*b):=⟨_,hx,hv⟩;cases hf:xpo q (X::t) (pg X K*b)with
  |none=>exact absurd hh (uA.1 hf)
  |some f=>
    obtain⟨h3,h4⟩:=wO hf;rw[Tw.inj eb hu hT h3 hx (h4.trans hv.symm)]
theorem zOD{A K J:Nat}(hK:K<q){b:EA x w}(hb:nE b=J){e:List Int}(he:xpo q t b=df e)(a:EA x w):Wv q A t X K (J+1) a=if nE (pg X K*b)=nE a then J1 A 0++(K:Int)::e else Wv q A t X K J a:=by
 by_cases hc:nE (pg X K*b)=nE a
 ·rw[if_pos hc]
  have ha:a=pg X K*b:=tW hN gc hc.symm;unfold Wv;rw[ha,zMI eb hu hT hK he];simp only
  rw[if_pos (.inr ⟨trivial,by rw[(wO he).2,hb];omega⟩)]
 ·rw[if_neg hc]
  rcases vC (q:=q) (t:=t) (X:=X) A K (J+1) a with⟨h1,h2⟩|⟨k,f,h1,h2,h3,h4,h5,h6⟩
  ·rcases vC (q:=q) (t:=t) (X:=X) A K J a with⟨_,h4⟩|⟨k,e,h4,_⟩
   ·rw[h2,h4]
   ·rw[h1]at h4;cases h4
  ·rcases vC (q:=q) (t:=t) (X:=X) A K J a with⟨h7,_⟩|⟨k',e',h7,_,_,_,_,h8⟩
   ·rw[h1]at h7;cases h7
   ·rw[h1]at h7
    simp at h7;obtain⟨rfl,rfl⟩:=h7;rw[h6,h8];have:¬(k=(K:Int)∧nE (vl t f)=J):=fun⟨g1,g2⟩=>by have hvb:vl t f=b:=tW hN gc (g2.trans hb.symm);rw[hvb,g1]at h5;exact hc (by rw[←h5];rfl)
    have ei:(k<(K:Int)∨(k=(K:Int)∧nE (vl t f)<J+1))↔(k<(K:Int)∨(k=(K:Int)∧nE (vl t f)<J)):=by omega
    simp only[ei]
 omit eb hu hT in
theorem zMJ{A K:Nat}(a:EA x w):Wv q A t X K N a=Wv q A t X (K+1) 0 a:=by
  rcases vC (q:=q) (t:=t) (X:=X) A K N a with⟨h1,h2⟩|⟨k,e,h1,h2,h3,h4,h5,h6⟩
  · rcases vC (q:=q) (t:=t) (X:=X) A (K+1) 0 a with⟨_,h4⟩|⟨k,e,h4,_⟩
    ·rw[h2,h4]
    ·rw[h1]at h4;cases h4
  · rcases vC (q:=q) (t:=t) (X:=X) A (K+1) 0 a with⟨h7,_⟩|⟨k',e',h7,_,_,_,_,h8⟩
    ·rw[h1]at h7;cases h7
    · rw[h1]at h7
      simp at h7;obtain⟨rfl,rfl⟩:=h7;rw[h6,h8];have:=zA6 hN gc (vl t e);have ei:(k<(K:Int)∨(k=(K:Int)∧nE (vl t e)<N))↔(k<((K+1:Nat):Int)∨(k=((K+1:Nat):Int)∧nE (vl t e)<0)):=by omega
      simp only[ei]
 omit hN gc eb hu hT in
theorem zOE{A:Nat}(hA:A=n-(X::t).length)(a:EA x w):Wv q A t X q 0 a=tvx q n (X::t) a:=by
  rcases vC (q:=q) (t:=t) (X:=X) A q 0 a with⟨h1,h2⟩|⟨k,e,h1,h2,h3,h4,h5,h6⟩
  ·rw[h2,tvx,h1]
  ·rw[h6,if_pos (.inl h3),tvx,h1,hA]
 omit hN gc eb hu hT in
theorem zKM{A:Nat}(a:EA x w):Wv q A t X 0 0 a=[]:=by
  rcases vC (q:=q) (t:=t) (X:=X) A 0 0 a with⟨h1,h2⟩|⟨k,e,h1,h2,h3,h4,h5,h6⟩
  ·exact h2
  ·rw[h6,if_neg (by omega)]
theorem zGA{T:Mx}(hTB:TB q n N t T)(hn:n=x.zA.length)(ho:at0 x.zA 0=(q:Int))(hq:q≤1000){A:Nat}(hA:A+1+t.length=n):
  ∃T',f_n x ⟨t.map (·.1),T⟩ X.1 (A:Int)=df ⟨(X::t).map (·.1),T'⟩∧TB q n N (X::t) T':=by
 have h9:=w.1.os.1;have bL:=hTB.1;have inner:∀(K:Nat)(out:Mx),K<q→OT q A N t X K 0 out→ ∃r,zC (zGI x ⟨t.map (·.1),T⟩ (A:Int) (out,(pg X K).1,(K:Int))) (out,0)=df r∧OT q A N t X K N r:=fun K out hK h0=>
  vG (Q:=fun r=>OT q A N t X K N r) (fun J s=>s.2=(J:Int)∧OT q A N t X K J s.1) N (fun J s hJ hs=>by
   left;obtain⟨b,hb⟩:=zNM (w:=w) hN gc hJ;have aX:=hTB.2 b;rw[hb]at aX;have gn:=zCA (q:=q) (n:=n) (t:=t) (by omega) b;cases he:xpo q t b with
   |none=>
    refine⟨(s.1,((J+1:Nat):Int)),?_,rfl,hs.2.1,fun a=>by rw[zMH hN gc hb he a];exact hs.2.2 a⟩;unfold zGI;simp only
    rw[hs.1,bL,xR hJ,zH,aX,bs,gn,he,show decide (((if(none:Option (List Int)).isSome then n else 0:Nat):Int)> 0)=di from rfl,zG,zD (by omega) (by omega),bs];rfl
   |some e=>
    have bj:=(wO he).1.1;have htv:tvx q n t b=J1 (A+1) 0++e:=by rw[tvx,he,show n-t.length=A+1 by omega]
    have gx:(J1 (A+1) (0:Int)++e).set A (K:Int)=J1 A 0++(K:Int)::e:=by rw[Ha,Jb,Kg _ _ (by simp)];simp
    have mj:nE (pg X K*b)<s.1.length:=by rw[hs.2.1];exact zA6 hN gc _
    refine⟨(s.1.set (nE (pg X K*b)) (J1 A 0++(K:Int)::e),((J+1:Nat):Int)),?_,rfl,by rw[Lq];exact hs.2.1,fun a=>?_⟩
    ·unfold zGI
     simp only
     have pK:elv x J=b.1:=by rw[←hb];exact zI3 hN gc b
     have fE:mul (suf x 0) (pg X K).1 b.1=(pg X K*b).1:=rfl;rw[hs.1,bL,xR hJ,zH,aX,bs,gn,he,show decide (((if(df e:Option (List Int)).isSome then n else 0:Nat):Int)> 0)=dh from dl (by simp;omega),zH,bs,htv,vZ (by simp;omega),bs,wN 0 (by simp;omega),bs,(uY w.1 (k:=J) (by omega)).2.1,bs,pK,zIz w.1 w.2 (pg X K).2 b.2,bs,fE,(zAd w.1 hN (by omega) (pg X K*b).2).2,bs,show((nv x (pg X K*b).1:Nat):Int)=((nE (pg X K*b):Nat):Int)from rfl,wN [] mj,bs,zD (by omega) (by omega),bs,Jj,Jj,gx];rfl
    ·rw[zOD hN gc eb hu hT hK hb he a]
     by_cases hc:nE (pg X K*b)=nE a
     ·rw[if_pos hc,hc,yT,Ky (by rw[←hc];exact mj)]
     ·rw[if_neg hc,yT,Hd hc,←yT];exact hs.2.2 a) (fun s hs=>by
   refine⟨s.1,?_,hs.2⟩;unfold zGI;simp only
   rw[hs.1,bL,tK,zG]) ⟨rfl,h0⟩
 obtain⟨r,r1,r2⟩:=vG (body:=zJo x ⟨t.map (·.1),T⟩ X.1 (A:Int)) (Q:=fun r=>OT q A N t X q 0 r) (fun K s=>s.2.1=(pg X K).1∧s.2.2=(K:Int)∧OT q A N t X K 0 s.1) q (fun K s hK hs=>by
  left;obtain⟨out,P,kk⟩:=s;obtain⟨s1,s2,s3⟩:=hs;simp only at s1 s2 s3;subst s1 s2;obtain⟨r,i1,i2⟩:=inner K out hK s3;refine⟨(r,(pg X (K+1)).1,((K+1:Nat):Int)),?_,rfl,rfl,i2.1,fun a=>by rw[←zMJ hN gc a];exact i2.2 a⟩;have fE:mul (suf x 0) (pg X K).1 X.1=(pg X (K+1)).1:=rfl;unfold zJo;simp only
  rw[show(0:Int)=((0:Nat):Int)from rfl,yR (by omega),bs,ho,xR hK,zH];rw[show zC (zGI x ⟨t.map (·.1),T⟩ (A:Int) (out,(pg X K).1,(K:Int))) (out,((0:Nat):Int))=df r from i1,bs,zIz w.1 w.2 (pg X K).2 X.2,bs,fE,zD (by omega) (by omega),bs];rfl) (fun s hs=>by
  refine⟨s.1,?_,hs.2.2⟩;unfold zJo;rw[show(0:Int)=((0:Nat):Int)from rfl,yR (by omega),bs,ho,hs.2.1,tK,zG]) (s:=(J1 N ([]:List Int),(1:EA x w).1,0)) ⟨rfl,rfl,by simp,fun a=>by rw[zKM,yT,Js,if_pos (zA6 hN gc a)]⟩
 refine⟨r,?_,r2.1,fun a=>by rw[←zOE (A:=A) (by simp;omega)];exact r2.2 a⟩;have gv:J1 x.zA.length (0:Int)=(1:EA x w).1:=by rw[zQ4,yP,G8];rfl
 unfold f_n zGH;rw[yX (by simp;omega),bs];rw[bL,yI (by omega),bs,yI (by omega),bs,bs,gv,r1,bs];rfl
end
end Go.Pl

namespace Go.Pl
open Go Go.Ab Go.Wk Go.Pc GrT
section
variable {x:SPr}{w:Pres x∧xD (suf x 0)}{q n N m:Nat}
noncomputable def eK (w:Pres x∧xD (suf x 0)) (k:Nat):EA x w:=open Classical in if h:∃a:EA x w,nE a=k then h.choose else 1
noncomputable def twr (q n N:Nat) (t:List (EA x w)):zE:=⟨t.map (·.1),(Jz N).map fun k=>tvx q n t (eK w k)⟩
noncomputable def twi (t:List (EA x w)):List Int:=t.map fun a=>((nE a:Nat):Int)
noncomputable def swS (f:Bool) (q n:Nat) (t:List (EA x w)) (b:EA x w) (s:List Int×List (List (EA x w))):List Int×List (List (EA x w)):=match seg q n t b with
 |none=>s
 |some v=>if s.1=[]∨vH v s.1<0 then(v,[b::t])else if vH v s.1=0∧(f=dh∨s.2=[])then(s.1,s.2++[b::t])else s
structure Kp (q n m B:Nat) (s:List Int×List (List (EA x w))):Prop where
 e:s.1=[]→s.2=[]
 f:s.1≠[]→s.1.length=n*(1+m)∧s.2≠[]
 b:s.2.length≤B
 t:∀u∈s.2,u.length=m+1∧Tw q u
theorem Kp.le{s:List Int×List (List (EA x w))}{B C:Nat}(h:Kp q n m B s)(hc:B≤C):Kp q n m C s:=⟨h.e,h.f,Ke h.b hc,h.t⟩
theorem zOF{f:Bool}{B:Nat}{t:List (EA x w)}{b:EA x w}{s:List Int×List (List (EA x w))}(h:Kp q n m B s)(ht:t.length=m)(hn:m≤n)(h0:1≤n)(hT:Tw q t):Kp q n m (B+1) (swS f q n t b s):=by
 unfold swS;cases hv:seg q n t b with
 |none=>exact h.le (by omega)
 |some v=>
  have hl:=zC7 (by omega) hv;rw[ht]at hl;have hs:=hT.step (n:=n) (x:=b) (by rw[hv];rfl);have h1:1≤v.length:=by rw[hl];exact Uq h0 (by omega)
  have fp:v≠[]:=fun e=>by rw[e]at h1;simp at h1
  simp only
  split
  ·exact⟨fun e=>absurd e fp,fun _=>⟨hl,by simp⟩,by simp,fun u hu=>by simp at hu;rw[hu];exact⟨by simp[ht],hs⟩⟩
  ·rename_i g
   have g1:s.1≠[]:=fun e=>g (.inl e)
   split
   ·exact⟨fun e=>absurd e g1,fun _=>⟨(h.f g1).1,by simp⟩,by simp;exact h.b,fun u hu=>by
     rcases Lg.1 hu with hu|hu
     ·exact h.t u hu
     ·simp at hu;rw[hu];exact⟨by simp[ht],hs⟩⟩
   ·exact h.le (by omega)
theorem zOG{f:Bool}{t:List (EA x w)}{b:EA x w}{s:List Int×List (List (EA x w))}(hn:t.length≤n)(h0:1≤n)(h:s.1≠[]∨(seg q n t b).isSome=dh):(swS f q n t b s).1≠[]:=by
 unfold swS;cases hv:seg q n t b with
 |none=>exact h.elim id fun e=>by rw[hv]at e;cases e
 |some v=>
  have hl:=zC7 hn hv;have h1:1≤v.length:=by rw[hl];exact Uq h0 (by omega)
  have fp:v≠[]:=fun e=>by rw[e]at h1;simp at h1
  simp only
  split
  ·exact fp
  ·rename_i g
   split
   ·exact fun e=>g (.inl e)
   ·exact fun e=>g (.inl e)
theorem zKN{f f':Bool}{t:List (EA x w)}{b:EA x w}{s s':List Int×List (List (EA x w))}(h:s.1=s'.1):(swS f q n t b s).1=(swS f' q n t b s').1:=by
 unfold swS;cases hv:seg q n t b with
 |none=>exact h
 |some v=>
  simp only[h];split
  ·rfl
  ·split<;>split<;>first|rfl|exact h|exact h.symm
variable (hN:pr x.zA x.zA.length=(N:Int)) (gc:N≤1000)
 include hN gc
theorem zHw{k:Nat}(hk:k<N):nE (eK w k)=k:=by have h:=zNM (w:=w) hN gc hk;unfold eK;rw[dif_pos h];exact h.choose_spec
theorem zNN(a:EA x w):eK w (nE a)=a:=tW hN gc (zHw hN gc (zA6 hN gc a))
theorem zQA{k:Nat}(hk:k<N):elv x k=(eK w k).1:=by rw[←zI3 hN gc,zHw hN gc hk]
theorem zFr{t:List (EA x w)}:TB q n N t (twr q n N t).wW:=by refine⟨by simp[twr],fun a=>?_⟩;rw[yT];simp only[twr,Jf];rw[L4 (zA6 hN gc a),Lh,zNN hN gc]
theorem zFs{t:List (EA x w)}{T:Mx}(h:TB q n N t T):(⟨t.map (·.1),T⟩:zE)=twr q n N t:=by
 have:T=(Jz N).map fun k=>tvx q n t (eK w k):=L0 fun k=>by
  by_cases hk:k<N
  ·have:=h.2 (eK w k)
   rw[zHw hN gc hk,yT]at this;rw[this,Jf,L4 hk];rfl
  ·rw[Gf (by rw[h.1];omega),Gf (by simp;omega)]
 rw[this];rfl
end
end Go.Pl

namespace Go.Pl
open Go Go.Ab Go.Wk Go.Pc GrT
section
variable {x:SPr}{w:Pres x∧xD (suf x 0)}{q n N m:Nat}
theorem l1s{b:List Int}{nx:List zE}{k:Int}{v:List Int}(h:b=[]∨b.length=v.length)(hl:v.length≤1000000):
  zC (zJp (b,nx,k) (v,dh)) ()=df (!(b==[])&&decide (vH b v<0)):=by
 rw[zM];unfold zJp;simp only[Ju,zG];cases b with
 |nil=>rw[dj (by simp),zG];rfl
 |cons a b=>
  have h1:(a::b).length=v.length:=h.elim (fun e=>by cases e) id
  rw[dl (by simp),zH,zE8 h1 (by omega),bs];rfl
theorem l2s{b:List Int}{nx:List zE}{k:Int}{v:List Int}(h:b=[]∨b.length=v.length)(hl:v.length≤1000000):
  zC (zLH (b,nx,k) (v,dh)) ()=df ((b==[])||decide (vH v b<0)):=by
 rw[zM];unfold zLH;simp only
 cases b with
 |nil=>rfl
 |cons a b=>
  have h1:(a::b).length=v.length:=h.elim (fun e=>by cases e) id
  rw[show(((a::b).length:Int)==0)=di from by simp;omega,zG,zE8 h1.symm (by omega),bs];rfl
theorem l3s{b:List Int}{nx:List zE}{k:Int}{v:List Int}(h:b=[]∨b.length=v.length)(hl:v.length≤1000000):
  zC (zLI (b,nx,k) (v,dh)) ()=df (if b=[]∨vH v b<0 then(v,[])else(b,nx)):=by
 rw[zM];unfold zLI;rw[l2s h hl,bs]
 by_cases g:b=[]∨vH v b<0
 ·rw[show((b==[])||decide (vH v b<0))=dh from by simpa using g,zH,if_pos g]
 ·rw[show((b==[])||decide (vH v b<0))=di from by simpa using g,zG,if_neg g]
theorem l4s{P:Mx}{C:List Mx}{ts:List zE}{A:Nat}{b:List Int}{nx:List zE}:
  zC (zLJ (P,C,ts,(A:Int)) (b,nx)) ()=df (decide (0<A)||nx.isEmpty):=by
 rw[zM];unfold zLJ;simp only
 by_cases g:0<A
 ·rw[dl (by omega),zH,dl g];rfl
 ·rw[dj (by omega),zG,dj g]
  cases nx with
  |nil=>rfl
  |cons a nx=>rw[show(((a::nx).length:Int)==0)=di from by simp;omega];rfl
variable (hN:pr x.zA x.zA.length=(N:Int)) (gc:N≤1000)
 include hN gc
theorem zJd{t:List (EA x w)}{A c k B:Nat}{P:Mx}{C:List Mx}{ts:List zE}{b0:List Int}{n0:List zE}{s:List Int×List (List (EA x w))}
  (ht:t.length=m)(hT:Tw q t)(hA:A+1+m=n)(hn:n=x.zA.length)(ho:at0 x.zA 0=(q:Int))(eb:2≤q)(hq:q≤1000)(hu:∀d,0<d→d<q→ ∃u v,u*d=1+q*v)
  (ec:f_t x=df (N:Int))(hc:ixO ts (c:Int)=df (twr q n N t))(hK:Kp q n m B s)(hB:B≤1000000)(hk:k<N):
  zJq x (P,C,ts,(A:Int)) (b0,n0,(c:Int)) (s.1,s.2.map (twr q n N),(k:Int))=df (.inl ((swS (decide (0<A)) q n t (eK w k) s).1,(swS (decide (0<A)) q n t (eK w k) s).2.map (twr q n N),((k+1:Nat):Int))):=by
 have h9:=w.1.os.1;have av:n*(1+m)≤14*15:=L6 (by omega) (by omega);have cZ:=zOC hN gc (eK w k) (zFr hN gc (q:=q) (n:=n) (t:=t)) hq hn ho (by omega) (by omega) (A:Int);rw[zFs hN gc (zFr hN gc)]at cZ;unfold zJq;simp only
 rw[ec,bs,xR hk,zH,(uY w.1 (k:=k) (by omega)).2.1,bs,zQA (w:=w) hN gc hk,hc,bs,cZ,bs];unfold swS;cases hv:seg q n t (eK w k)with
 |none=>
  simp only
  rw[zM];unfold zJp;simp only[La,zH,bs];rw[zD (by omega) (by omega),bs];rfl
 |some v=>
  have hl:=zC7 (by omega) hv;rw[ht]at hl;have hs:=hT.step (n:=n) (x:=eK w k) (by rw[hv];rfl);have fM:s.1=[]∨s.1.length=v.length:=by
   by_cases g:s.1=[]
   ·exact .inl g
   ·exact .inr ((hK.f g).1.trans hl.symm)
  obtain⟨T',k1,k2⟩:=zGA hN gc (X:=eK w k) eb hu ⟨hT,zHv.1 (by rw[hv];rfl)⟩ (zFr hN gc (q:=q) (n:=n) (t:=t)) hn ho hq (A:=A) (by omega);rw[zFs hN gc (zFr hN gc),zFs hN gc k2]at k1;simp only
  rw[l1s fM (by omega),bs]
  by_cases g:s.1=[]∨vH v s.1<0
  ·have g1:(!(s.1==[])&&decide (vH s.1 v<0))=di:=by
    rcases g with g|g
    ·simp[g]
    ·have:=zDD v s.1
     rw[dj (by omega)];simp
   rw[g1,zG,l3s fM (by omega),bs,if_pos g,if_pos g,l4s,bs,show(decide (0<A)||([]:List zE).isEmpty)=dh from by simp,zH,bs,k1,bs,yX (by simp),bs,zD (by omega) (by omega),bs];rfl
  ·have g2:s.1≠[]:=fun e=>g (.inl e)
   have g3:¬vH v s.1<0:=fun e=>g (.inr e)
   have eH:=zDD v s.1;have hval:=zG4 v s.1;rw[if_neg g]
   by_cases g4:vH v s.1=0
   ·rw[show(!(s.1==[])&&decide (vH s.1 v<0))=di from by rw[dj (by omega)];simp,zG,l3s fM (by omega),bs,if_neg g,l4s,bs]
    have hie:(s.2.map (twr q n N)).isEmpty=s.2.isEmpty:=by cases s.2<;>rfl
    by_cases g5:0<A∨s.2=[]
    ·rw[show(decide (0<A)||(s.2.map (twr q n N)).isEmpty)=dh from by rw[hie];simpa using g5,zH,bs,k1,bs,yX (by have:=hK.b;simp;omega),bs,zD (by omega) (by omega),bs,if_pos ⟨g4,by simpa using g5⟩,Kn];rfl
    ·rw[show(decide (0<A)||(s.2.map (twr q n N)).isEmpty)=di from by rw[hie];simpa using g5,zG,zD (by omega) (by omega),bs,if_neg fun e=>g5 (by simpa using e.2)];rfl
   ·rw[show(!(s.1==[])&&decide (vH s.1 v<0))=dh from by rw[dl (by omega)];simpa using g2,zH,zD (by omega) (by omega),bs,if_neg fun e=>g4 e.1];rfl
theorem zJe{t:List (EA x w)}{k B:Nat}{l:List (Int×List Int)}{s:List Int×List (List (EA x w))}
  (ht:t.length=m)(hm:m+1≤n)(hn:n=x.zA.length)(hq:q≤1000)
  (hl:KP q t l)(hK:Kp q n m B s)(hB:B≤1000000)(hk:k<N):
  zJv x (mtb x N) (q:Int) (twi t) l (s.1,s.2.map twi,(k:Int))=df (.inl ((swS dh q n t (eK w k) s).1,(swS dh q n t (eK w k) s).2.map twi,((k+1:Nat):Int))):=by
 have h9:=w.1.os.1;have av:n*(1+m)≤14*15:=L6 (by omega) (by omega);obtain⟨r,r1,r2,r3⟩:=zFq hN gc (n:=n) (eK w k) hq (by omega) (by omega) (by omega) hl;rw[zHw hN gc hk]at r1;have aW:yQ [(k:Int)] (twi t)=df (twi (eK w k::t)):=by rw[yX (by simp[twi];omega)];simp[twi,zHw hN gc hk]
 unfold zJv;simp only
 rw[zI4 hN gc,xR hk,zH,←hn,show f_w ⟨mtb x N⟩ (twi t) l (k:Int) (q:Int) (n:Int)=df r from r1,bs];unfold swS;cases hv:seg q n t (eK w k)with
 |none=>
  rw[r3 hv,La,zH,zD (by omega) (by omega),bs];rfl
 |some v=>
  obtain rfl:=r2 v hv;have fh:=zC7 (by omega) hv;rw[ht]at fh;simp only[Ju,zG];have h1:1≤v.length:=by rw[fh];exact Uq (by omega) (by omega)
  have gf:neO v=df ():=by cases v with
   |nil=>simp at h1
   |cons a v=>rfl
  by_cases g2:s.1=[]
  ·rw[g2,show(!([]:List Int).isEmpty)=di from rfl,zG,show decide ((-1:Int)<0)=dh from rfl,zH,show decide ((-1:Int)≤0)=dh from rfl,zH,gf,bs,aW,bs,yX (by simp),bs,zD (by omega) (by omega),bs,if_pos (.inl rfl)];rfl
  ·rw[show(!s.1.isEmpty)=dh from by simpa using g2,zH,zFm (fh.trans (hK.f g2).1.symm) (by omega),bs]
   by_cases g:vH v s.1<0
   ·rw[dl g,zH,gf,bs,dl (by omega),zH,aW,bs,yX (by simp),bs,zD (by omega) (by omega),bs,if_pos (.inr g)];rfl
   ·rw[dj g,zG,if_neg fun e=>e.elim g2 g]
    by_cases g4:vH v s.1=0
    ·rw[dl (by omega),zH,aW,bs,yX (by have:=hK.b;simp;omega),bs,zD (by omega) (by omega),bs,if_pos ⟨g4,.inl trivial⟩,Kn];rfl
    ·rw[dj (by omega),zG,zD (by omega) (by omega),bs,if_neg fun e=>g4 e.1];rfl
end
end Go.Pl

namespace Go.Pl
open Go Go.Ab Go.Wk Go.Pc GrT
section
variable {x:SPr}{w:Pres x∧xD (suf x 0)}{q n N m:Nat}
noncomputable def inS (q n:Nat) (f:Bool) (t:List (EA x w)) (s:List Int×List (List (EA x w))):Nat→List Int×List (List (EA x w))
 |0=>s
 |k+1=>swS f q n t (eK w k) (inS q n f t s k)
noncomputable def ouS (q n N:Nat) (f:Bool) (ts:List (List (EA x w))):Nat→List Int×List (List (EA x w))
 |0=>([],[])
 |c+1=>inS q n f (ts.getD c []) (ouS q n N f ts c) N
def Lv(q m:Nat)(ts:List (List (EA x w))):Prop:=∀t∈ts,t.length=m∧Tw q t
theorem Lv.get{ts:List (List (EA x w))}(h:Lv q m ts){c:Nat}(hc:c<ts.length):(ts.getD c []).length=m∧Tw q (ts.getD c []):=h _ (zKG hc)
theorem zFt{f:Bool}{B:Nat}{t:List (EA x w)}{s:List Int×List (List (EA x w))}(h:Kp q n m B s)(ht:t.length=m)(hn:m≤n)(h0:1≤n)(hT:Tw q t):∀k,Kp q n m (B+k) (inS q n f t s k)
 |0=>h
 |k+1=>by have:=zOF (f:=f) (b:=eK w k) (zFt (f:=f) h ht hn h0 hT k) ht hn h0 hT;exact this
theorem zFu{f:Bool}{ts:List (List (EA x w))}(h:Lv q m ts)(hn:m≤n)(h0:1≤n):∀c,c≤ts.length→Kp q n m (c*N) (ouS q n N f ts c)
 |0,_=>⟨fun _=>rfl,fun e=>absurd rfl e,by simp[ouS],by simp[ouS]⟩
 |c+1,hc=>by obtain⟨h1,h2⟩:=h.get (c:=c) (by omega);have:=zFt (f:=f) (zFu (f:=f) h hn h0 c (by omega)) h1 hn h0 h2 N;exact this.le (by rw[Kl];omega)
theorem zGB{f f':Bool}{t:List (EA x w)}{s s':List Int×List (List (EA x w))}(h:s.1=s'.1):∀k,(inS q n f t s k).1=(inS q n f' t s' k).1
 |0=>h
 |k+1=>zKN (zGB h k)
theorem zGC{f f':Bool}{ts:List (List (EA x w))}:∀c,(ouS q n N f ts c).1=(ouS q n N f' ts c).1
 |0=>rfl
 |c+1=>zGB (zGC c) N
theorem zKO{f:Bool}{t:List (EA x w)}{s:List Int×List (List (EA x w))}(hn:t.length≤n)(h0:1≤n):∀k,(s.1≠[]∨ ∃j,j<k∧(seg q n t (eK w j)).isSome=dh)→(inS q n f t s k).1≠[]
 |0,h=>by
  rcases h with h|⟨j,hj,_⟩
  ·exact h
  ·omega
 |k+1,h=>by
  refine zOG hn h0 ?_
  by_cases g:(seg q n t (eK w k)).isSome=dh
  ·exact .inr g
  ·refine .inl (zKO hn h0 k ?_)
   rcases h with h|⟨j,hj,hs⟩
   ·exact .inl h
   ·refine .inr ⟨j,?_,hs⟩
    rcases Ho j k with e|e
    ·exact e
    ·obtain rfl:j=k:=by omega
     exact absurd hs g
theorem zOH{f:Bool}{ts:List (List (EA x w))}(h:Lv q m ts)(hn:m≤n)(h0:1≤n)(er:∀t∈ts,∃j,j<N∧(seg q n t (eK w j)).isSome=dh):∀c,0<c→c≤ts.length→(ouS q n N f ts c).1≠[]
 |c+1,_,hc=>by refine zKO (by rw[(h.get (c:=c) (by omega)).1];exact hn) h0 N (.inr (er _ (zKG (by omega))))
variable (hN:pr x.zA x.zA.length=(N:Int)) (gc:N≤1000)
 include hN gc
theorem zMK{t:List (EA x w)}{A c B:Nat}{P:Mx}{C:List Mx}{ts:List zE}{s:List Int×List (List (EA x w))}
  (ht:t.length=m)(hT:Tw q t)(hA:A+1+m=n)(hn:n=x.zA.length)(ho:at0 x.zA 0=(q:Int))(eb:2≤q)(hq:q≤1000)(hu:∀d,0<d→d<q→ ∃u v,u*d=1+q*v)
  (ec:f_t x=df (N:Int))(hc:ixO ts (c:Int)=df (twr q n N t))(hK:Kp q n m B s)(hB:B+N≤1000000):
  zC (zJq x (P,C,ts,(A:Int)) (s.1,s.2.map (twr q n N),(c:Int))) (s.1,s.2.map (twr q n N),0)=df ((inS q n (decide (0<A)) t s N).1,(inS q n (decide (0<A)) t s N).2.map (twr q n N)):=
 zX (fun k=>((inS q n (decide (0<A)) t s k).1,(inS q n (decide (0<A)) t s k).2.map (twr q n N),(k:Int))) N (fun k hk=>
  zJd hN gc ht hT hA hn ho eb hq hu ec hc (zFt hK ht (by omega) (by omega) hT k) (by omega) hk) (by
  unfold zJq;rw[ec,bs];simp only
  rw[tK,zG])
theorem zML{t:List (EA x w)}{B:Nat}{l:List (Int×List Int)}{s:List Int×List (List (EA x w))}
  (ht:t.length=m)(hT:Tw q t)(hm:m+1≤n)(hn:n=x.zA.length)(hq:q≤1000)
  (hl:KP q t l)(hK:Kp q n m B s)(hB:B+N≤1000000):
  zC (zJv x (mtb x N) (q:Int) (twi t) l) (s.1,s.2.map twi,0)=df ((inS q n dh t s N).1,(inS q n dh t s N).2.map twi):=
 zX (fun k=>((inS q n dh t s k).1,(inS q n dh t s k).2.map twi,(k:Int))) N (fun k hk=>
  zJe hN gc ht hm hn hq hl (zFt hK ht (by omega) (by omega) hT k) (by omega) hk) (by
  unfold zJv;simp only
  rw[zI4 hN gc,tK,zG])
theorem zKP{A:Nat}{P:Mx}{C:List Mx}{ts:List (List (EA x w))}
  (h:Lv q m ts)(hA:A+1+m=n)(hn:n=x.zA.length)(ho:at0 x.zA 0=(q:Int))(eb:2≤q)(hq:q≤1000)(hu:∀d,0<d→d<q→ ∃u v,u*d=1+q*v)
  (ec:f_t x=df (N:Int))(hB:ts.length*N≤1000000)(pc:ts.length≤1000000):
  zC (zLK x (P,C,ts.map (twr q n N),(A:Int))) ([],[],0)=df ((ouS q n N (decide (0<A)) ts ts.length).1,(ouS q n N (decide (0<A)) ts ts.length).2.map (twr q n N)):=
 zX (fun c=>((ouS q n N (decide (0<A)) ts c).1,(ouS q n N (decide (0<A)) ts c).2.map (twr q n N),(c:Int))) ts.length (fun c hc=>by
  obtain⟨h1,h2⟩:=h.get hc;have eC:c*N+N≤1000000:=by rw[←Kl];exact Ke (Jp N hc) hB
  unfold zLK;simp only
  rw[Jl,xR hc,zH,zMK hN gc h1 h2 hA hn ho eb hq hu ec (c:=c) (by rw[yT,Jf,J5 hc,J4,J5 hc];rfl) (zFu h (by omega) (by omega) c (by omega)) eC,bs,zD (by omega) (by omega),bs];rfl) (by
  unfold zLK;simp only
  rw[Jl,tK,zG])
theorem zKQ{ts:List (List (EA x w))}{A:Nat}{P:Mx}{C:List Mx}
  (h:Lv q m ts)(hm:m+1≤n)(hn:n=x.zA.length)(eb:2≤q)(hq:q≤1000)(hu:∀d,0<d→d<q→ ∃u v,u*d=1+q*v)
  (hB:ts.length*N≤1000000)(pc:ts.length≤1000000):
  zC (zLP x (mtb x N) (q:Int) (ts.map twi,P,C,(A:Int))) ([],[],0)=df ((ouS q n N dh ts ts.length).1,(ouS q n N dh ts ts.length).2.map twi):=
 zX (fun c=>((ouS q n N dh ts c).1,(ouS q n N dh ts c).2.map twi,(c:Int))) ts.length (fun c hc=>by
  have h9:=w.1.os.1;obtain⟨h1,h2⟩:=h.get hc;have eC:c*N+N≤1000000:=by rw[←Kl];exact Ke (Jp N hc) hB
  obtain⟨l,l1,l2⟩:=zDK hN gc eb hq (t:=ts.getD c []) (by omega) (fun e e' k1 k2 k3=>Tw.inj eb hu h2 k1 k2 k3);unfold zLP;simp only
  rw[Jl,xR hc,zH,show ixO (ts.map twi) (c:Int)=df (twi (ts.getD c []))from by rw[yT,Jf,J5 hc,J4,J5 hc];rfl,bs,show f_m ⟨mtb x N⟩ (twi (ts.getD c [])) (q:Int)=df l from l1,bs,zML hN gc h1 h2 hm hn hq l2 (zFu h (by omega) (by omega) c (by omega)) eC,bs,zD (by omega) (by omega),bs];rfl) (by
  unfold zLP;simp only
  rw[Jl,tK,zG])
end
end Go.Pl

namespace Go.Pl
open Go Go.Ab Go.Wk Go.Pc GrT
theorem zOI:∀(M:Nat)(l:List Nat),l.Nodup→(∀a∈l,a<M)→l.length≤M
 |0,l,_,h=>by
  cases l with
  |nil=>simp
  |cons a l=>exact absurd (h a (by simp)) (by omega)
 |M+1,l,hd,h=>by
  have h1:=zOI M (l.erase M) (hd.erase M) (fun a ha=>by
   have h2:=h a (List.mem_of_mem_erase ha);have h3:a≠M:=fun e=>by subst e;exact(hd.not_mem_erase) ha
   omega)
  have h2:=List.length_erase (a:=M) (l:=l);split at h2<;>omega
def cod(q:Nat):List Int→Nat
 | []=>0
 |k::e=>k.toNat+q*cod q e
theorem zKR{q:Nat}:∀{m:Nat}{e:List Int},Ex q m e→cod q e<q ^ m
 |0,e,h=>by
  have:=h.1;cases e with
  |nil=>simp[cod]
  |cons a e=>simp at this
 |m+1,e,h=>by
  cases e with
  |nil=>have:=h.1;simp at this
  |cons k e=>
   rw[tV]at h;have h1:=zKR h.2;have h2:q*(cod q e+1)≤q*q ^ m:=Ln q h1;rw[cod,G9,Ga (q ^ m) q];rw[Lo]at h2;omega
theorem zI6{q:Nat}:∀{m:Nat}{e f:List Int},Ex q m e→Ex q m f→cod q e=cod q f→e=f
 |0,e,f,h,g,_=>by rw[Ji h.1,Ji g.1]
 |m+1,e,f,h,g,he=>by
  cases e with
  |nil=>have:=h.1;simp at this
  |cons k e=>
   cases f with
   |nil=>have:=g.1;simp at this
   |cons l f=>
    rw[tV]at h g;simp only[cod]at he;have h1:k.toNat<q:=by omega
    have h2:l.toNat<q:=by omega
    have h3:k.toNat=l.toNat:=by have:=congrArg (· %q) he;simpa[Nat.add_mul_mod_self_left,Qa h1,Qa h2]using this
    have h4:cod q e=cod q f:=Nat.eq_of_mul_eq_mul_left (by omega:0<q) (by omega);rw[zI6 h.2 g.2 h4,show k=l by omega]
theorem zHx{os:List Int}{q:Nat}(ho:∀d,d<os.length→at0 os d=(q:Int)):∀i,i≤os.length→pr os i=((q ^ i:Nat):Int)
 |0,_=>rfl
 |i+1,h=>by rw[pr,zHx ho i (by omega),ho i (by omega),G9,L1]
section
variable {x:SPr}{w:Pres x∧xD (suf x 0)}{q n N m:Nat} (hN:pr x.zA x.zA.length=(N:Int)) (gc:N≤1000)
 include hN gc
theorem zOJ{t:List (EA x w)}(hq:2≤q)(ho:∀d,d<x.zA.length→at0 x.zA d=(q:Int))(ht:t.length<x.zA.length):∃a,¬Hh q t a:=by
 refine Classical.byContradiction fun fP=>?_
 have ed:∀a,Hh q t a:=fun a=>Classical.byContradiction fun h=>fP ⟨a,h⟩
 have hx:∀a,∃e,xpo q t a=df e:=fun a=>Option.isSome_iff_exists.1 (zDG.2 (ed a))
 have h1:=zOI (q ^ t.length) ((Jz N).map fun k=>cod q ((xpo q t (eK w k)).getD [])) (zI5 (g:=id) (by simpa using Q0) fun i hi j hj he=>by
  obtain⟨e,h1⟩:=hx (eK w i);obtain⟨f,h2⟩:=hx (eK w j);simp only[h1,h2,Kc]at he;obtain⟨k1,k2⟩:=wO h1;obtain⟨k3,k4⟩:=wO h2;have:=zI6 k1 k3 he;rw[this]at k2;have:=congrArg nE (k2.symm.trans k4)
  rwa [zHw hN gc (K9.1 hi),zHw hN gc (K9.1 hj)]at this) (fun a ha=>by
  obtain⟨k,_,rfl⟩:=J7.1 ha;obtain⟨e,h1⟩:=hx (eK w k);simp only[h1,Kc];exact zKR (wO h1).1)
 rw[Jl,List.length_range]at h1;have h2:=zHx ho x.zA.length (Jg _);rw[hN]at h2;have h3:q ^ t.length<q ^ x.zA.length:=Nat.pow_lt_pow_right (by omega) ht;have h4:N=q ^ x.zA.length:=by exact_mod_cast h2
 omega
theorem zOK(hq:q=2∨q=3∨q=5∨q=7)(ho:∀d,d<x.zA.length→at0 x.zA d=(q:Int)):∃i,∀a:EA x w,Qm q i a→a=1:=by
 have hs:∃i,∀a:EA x w,Qm q i a→Qm q (i+1) a:=by
  refine Classical.byContradiction fun fP=>?_
  have ed:∀i,∃a:EA x w,Qm q i a∧ ¬Qm q (i+1) a:=fun i=>Classical.byContradiction fun h=>fP ⟨i,fun a ha=>Classical.byContradiction fun g=>h ⟨a,ha,g⟩⟩
  have fU:∀d i(a:EA x w),Qm q (i+d) a→Qm q i a:=by
   intro d
   induction d with
   |zero=>exact fun i a h=>h
   |succ d ih=>exact fun i a h=>ih i a ((Qm.n q (i+d)).sub h)
  have h1:=zOI N ((Jz (N+1)).map fun i=>nE (ed i).choose) (zI5 (g:=id) (by simpa using Q0) fun i _ j _ he=>by
   have he:=tW hN gc he;have key:∀i j,i<j→(ed i).choose=(ed j).choose→False:=fun i j hij e=>by have h1:=(ed i).choose_spec.2;have h2:=(ed j).choose_spec.1;rw[←e,show j=i+1+(j-(i+1))by omega]at h2;exact h1 (fU _ _ _ h2)
   rcases Nat.lt_trichotomy i j with h|h|h
   ·exact(key i j h he).elim
   ·exact h
   ·exact(key j i h he.symm).elim) (fun a ha=>by
   obtain⟨k,_,rfl⟩:=J7.1 ha;exact zA6 hN gc _)
  simp at h1;omega
 obtain⟨i,hi⟩:=hs;exact⟨i,zKF hq ho hi⟩
theorem zKS{t:List (EA x w)}(hq:q=2∨q=3∨q=5∨q=7)(ho:∀d,d<x.zA.length→at0 x.zA d=(q:Int))(hT:Tw q t)(ht:t.length<x.zA.length):∃j,j<N∧(seg q n t (eK w j)).isSome=dh:=by obtain⟨X,hX⟩:=zOA n (by omega) hT (zOJ hN gc (by omega) ho ht) (zOK hN gc hq ho);exact⟨nE X,zA6 hN gc X,by rw[zNN hN gc];exact hX⟩
end
end Go.Pl

namespace Go.Pl
open Go Go.Ab Go.Wk Go.Pc GrT
structure zBV (n:Nat) (P:Mx) (C:List Mx):Prop where
 pl:P.length=n
 pr:∀v∈P,v.length=n
 cl:C.length=n
 c:∀i,i<n→(C.getD i []).length=n-1-i
 cr:∀u∈C,∀v∈u,v.length=n
theorem zKT{α:Type}{l:List α}{d:α}{n:Nat}(hn:l.length=n):gl n (fun k=>l.getD k d)=l:=by subst hn;exact Uh (by simp[gl]) fun i h1 h2=>by simp[gl]at h1 ⊢;grind
theorem zGD{α:Type}{l:List α}{i:Nat}{a b:α}(h:b∈l.set i a):b∈l∨b=a:=by
 rcases List.mem_or_eq_of_mem_set h with h|h
 ·exact .inl h
 ·exact .inr h
theorem zBV.set{n A:Nat}{P:Mx}{C:List Mx}(h:zBV n P C){p:List Int}{r:Mx}(hp:p.length=n)(hr:r.length=n-1-A)(hv:∀v∈r,v.length=n):zBV n (P.set A p) (C.set A r):=by
 refine⟨by rw[Lq,h.pl],fun v hv=>?_,by rw[Lq,h.cl],fun i hi=>?_,fun u hu=>?_⟩
 ·rcases zGD hv with hv|rfl
  ·exact h.pr v hv
  ·exact hp
 ·rw[J4]
  by_cases e:A=i
  ·subst e
   rw[Ky (by rw[h.cl];exact hi),Kc,hr]
  ·rw[Hd e,←J4];exact h.c i hi
 ·rcases zGD hu with hu|rfl
  ·exact h.cr u hu
  ·exact hv
def prt(n:Nat)(b:List Int)(i:Nat):List Int:=mkv n fun j=>at0 b (i*n+j)
theorem zEA{n i:Nat}{b:List Int}(h:n*(i+1)≤b.length):zS b ((n*i:Nat):Int) ((n*(i+1):Nat):Int)=df (prt n b i):=by rw[Lo,zE7 (by rw[Lo]at h;exact h),prt,Ga]
section
variable {x:SPr}{n m A:Nat}
theorem zMM{P:Mx}{C:List Mx}{ts nx:List zE}{b:List Int}(hC:zBV n P C)(hn:n=x.zA.length)(h14:n≤14)(hA:A+1+m=n)(hb:b.length=n*(1+m)):
  zC (zH9 x (P,C,ts,(A:Int)) (b,nx)) (C,((A+1:Nat):Int))=df (C.set A (gl m fun i=>prt n b (i+1))):=by
 have hcA:=hC.c A (by omega);have h0:C.set A (gl m fun i=>if i<0 then prt n b (i+1)else(C.getD A []).getD i [])=C:=by
  rw[show(gl m fun i=>if i<0 then prt n b (i+1)else(C.getD A []).getD i [])=C.getD A []from by
   conv=>rhs;rw[←zKT (l:=C.getD A []) (d:=[]) (n:=m) (by omega)]
   exact zDA fun i _=>by rw[if_neg (by omega)]]
  have hA':A<C.length:=by rw[hC.cl];omega
  rw[J4,J5 hA',Kc,List.set_getElem_self]
 have hm:(gl m fun i=>if i<m then prt n b (i+1)else(C.getD A []).getD i [])=gl m fun i=>prt n b (i+1):=zDA fun i hi=>by rw[if_pos hi]
 have:=zX (body:=zH9 x (P,C,ts,(A:Int)) (b,nx)) (r:=C.set A (gl m fun i=>prt n b (i+1))) (fun d=>(C.set A (gl m fun i=>if i<d then prt n b (i+1)else(C.getD A []).getD i []),((A+1+d:Nat):Int))) m (fun d hd=>by
  have eC:n*(d+1+1)≤b.length:=by rw[hb];exact Ln n (by omega)
  have hle2:n*(d+1)≤n*(d+1+1):=Ln n (by omega);have ci:b.length≤14*15:=by rw[hb];exact L6 (by omega) (by omega)
  unfold zH9;simp only
  rw[←hn,xR (by omega),zH,yT,Ky (by rw[hC.cl];omega),bs];rw[show(((A+1+d:Nat):Int)-(A:Int))=((d+1:Nat):Int)from by omega,zD (by omega) (by omega),bs];rw[show(((d+1:Nat):Int)-1)=(d:Int)from by omega,zD (by omega) (by omega),bs,bs];rw[←L1,zD (by omega) (by omega),bs,bs];rw[show(((d+1:Nat):Int)+1)=((d+1+1:Nat):Int)from by omega,zD (by omega) (by omega),bs];rw[←L1,zD (by omega) (by omega),bs,zEA eC,bs,vZ (by rw[prt,wK];omega),bs,wN [] (by rw[sV];exact hd),bs,zD (by omega) (by omega),bs];rw[Jj,Jj,List.set_set,zO8];have:(gl m fun k=>if k=d then prt n b (d+1)else if k<d then prt n b (k+1)else(C.getD A []).getD k [])=gl m fun i=>if i<d+1 then prt n b (i+1)else(C.getD A []).getD i []:=zDA fun i hi=>by
   by_cases e:i=d
   ·rw[if_pos e,if_pos (by omega),e]
   ·rw[if_neg e]
    by_cases g:i<d
    ·rw[if_pos g,if_pos (by omega)]
    ·rw[if_neg g,if_neg (by omega)]
  rw[this];rfl) (by
  unfold zH9;simp only
  rw[←hn,hA,tK,zG,hm])
 rw[h0]at this;exact this
end
end Go.Pl

namespace Go.Pl
open Go Go.Ab Go.Wk Go.Pc GrT
section
variable {x:SPr}{w:Pres x∧xD (suf x 0)}{q n N m:Nat}
variable (hN:pr x.zA x.zA.length=(N:Int)) (gc:N≤1000)
 include hN gc
theorem zKU{A:Nat}{P:Mx}{C:List Mx}{ts:List (List (EA x w))}
  (h:Lv q m ts)(hA:A+1+m=n)(hn:n=x.zA.length)(ho:at0 x.zA 0=(q:Int))(eb:2≤q)(hq:q≤1000)(hu:∀d,0<d→d<q→ ∃u v,u*d=1+q*v)
  (ec:f_t x=df (N:Int))(hB:ts.length*N≤1000000)(pc:ts.length≤1000000)(hC:zBV n P C){b:List Int}(hb:b.length=n*(1+m))(aS:(ouS q n N (decide (0<A)) ts ts.length).1=b):
  zDU x (P,C,ts.map (twr q n N),(A:Int))=df (.inl (P.set A (prt n b 0),C.set A (gl m fun i=>prt n b (i+1)),(ouS q n N (decide (0<A)) ts ts.length).2.map (twr q n N),(A:Int)-1)):=by
 have h9:=w.1.os.1;have ci:b.length≤14*15:=by rw[hb];exact L6 (by omega) (by omega)
 have eC:n*(0+1)≤b.length:=by rw[hb];exact Ln n (by omega)
 have ft:=zEA eC;rw[Nat.mul_zero,J8,Ur]at ft;unfold zDU;simp only
 rw[dl (by omega),zH,zKP hN gc h hA hn ho eb hq hu ec hB pc,bs,aS,←hn];simp only
 rw[show zS b 0 (n:Int)=df (prt n b 0)from ft,bs,vZ (by rw[prt,wK];omega),bs,wN [] (by rw[hC.pl];omega),bs,zD (by omega) (by omega),bs,show(A:Int)+1=((A+1:Nat):Int)from by omega,zMM hC hn (by omega) hA hb,bs,zD (by omega) (by omega),bs,Jj]
theorem zKV{A:Nat}{P:Mx}{C:List Mx}{ts:List (List (EA x w))}
  (h:Lv q m ts)(hA:A+1+m=n)(hn:n=x.zA.length)(eb:2≤q)(hq:q≤1000)(hu:∀d,0<d→d<q→ ∃u v,u*d=1+q*v)
  (hB:ts.length*N≤1000000)(pc:ts.length≤1000000)(hC:zBV n P C){b:List Int}(hb:b.length=n*(1+m))(aS:(ouS q n N dh ts ts.length).1=b):
  zFw x (mtb x N) (q:Int) (ts.map twi,P,C,(A:Int))=df (.inl ((ouS q n N dh ts ts.length).2.map twi,P.set A (prt n b 0),C.set A (gl m fun i=>prt n b (i+1)),(A:Int)-1)):=by
 have h9:=w.1.os.1;have ci:n*(1+m)≤14*15:=L6 (by omega) (by omega);have fX:f_D b (n:Int)=df (zFl (1+m) n b):=zHt (by omega) (by rw[hb,Ga]) (by rw[Ga];omega);have gN:(zFl (1+m) n b).length=1+m:=sV;have gJ:zS (zFl (1+m) n b) 1 (zFl (1+m) n b).length=df (gl m fun i=>prt n b (i+1)):=by
  unfold zS;rw[if_pos ⟨by omega,by omega,by omega⟩,gN]
  congr 1
  exact Uh (by simp[zFl,gl];omega) fun i h1 h2=>by simp[zFl,gl,prt,Q7]
 unfold zFw;simp only
 rw[dl (by omega),zH,zKQ hN gc h (by omega) hn eb hq hu hB pc,bs,aS,←hn];simp only
 rw[fX,bs,show(0:Int)=((0:Nat):Int)from rfl,show ixO (zFl (1+m) n b) ((0:Nat):Int)=df (prt n b 0)from zQ0 (by omega),bs,wN [] (by rw[hC.pl];omega),bs,gJ,bs,wN [] (by rw[hC.cl];omega),bs,zD (by omega) (by omega),bs,Jj]
theorem zI7(hn:n=x.zA.length)(ho:∀d,d<x.zA.length→at0 x.zA d=(q:Int))(hq:q=2∨q=3∨q=5∨q=7)(hu:∀d,0<d→d<q→ ∃u v,u*d=1+q*v)
  (ec:f_t x=df (N:Int))(hB:N ^ n≤1000000)(bt:1≤N):∀(j m:Nat)(P:Mx)(C:List Mx)(ts:List (List (EA x w))),j+m=n→Lv q m ts→ts≠[]→ts.length≤N ^ m→zBV n P C→
  ∃r:Mx×List Mx,zC (zDU x) (P,C,ts.map (twr q n N),(j:Int)-1)=df r∧zC (zFw x (mtb x N) (q:Int)) (ts.map twi,P,C,(j:Int)-1)=df r∧zBV n r.1 r.2
 |0,m,P,C,ts,_,_,_,_,hC=>by
  refine⟨(P,C),?_,?_,hC⟩
  ·rw[zM];unfold zDU;simp only;rw[dj (by omega),zG]
  ·rw[zM];unfold zFw;simp only;rw[dj (by omega),zG]
 |A+1,m,P,C,ts,hj,hL,gf,pc,hC=>by
  have hA:A+1+m=n:=hj;have hpw:N ^ (m+1)≤N ^ n:=Lf bt (by omega);have hpw2:N ^ m≤N ^ n:=Lf bt (by omega);have hB1:ts.length*N≤N ^ (m+1):=by rw[G9];exact Jp N pc
  have er:∀t∈ts,∃j,j<N∧(seg q n t (eK w j)).isSome=dh:=fun t ht=>zKS hN gc hq ho (hL t ht).2 (by rw[(hL t ht).1];omega)
  have gn:0<ts.length:=List.length_pos_iff.2 gf;have hnb:=zOH (f:=dh) hL (by omega) (by omega) er ts.length gn (Jg _);have aB:=zFu (f:=dh) (N:=N) hL (by omega:m≤n) (by omega) ts.length (Jg _);obtain⟨fM,av⟩:=aB.f hnb;have hs:=zKU hN gc hL hA hn (ho 0 (by omega)) (by omega) (by omega) hu ec (by omega) (by omega) hC fM (zGC (f':=dh) ts.length);have hi:=zKV hN gc hL hA hn (by omega) (by omega) hu (by omega) (by omega) hC fM rfl;have hC':zBV n (P.set A (prt n (ouS q n N dh ts ts.length).1 0)) (C.set A (gl m fun i=>prt n (ouS q n N dh ts ts.length).1 (i+1))):=hC.set (wK _ _) (by rw[sV];omega) (fun v hv=>by obtain⟨i,_,rfl⟩:=J7.1 hv;exact wK _ _)
  rw[show((A+1:Nat):Int)-1=(A:Int)from by omega,zM,hs,zM (zFw x (mtb x N) (q:Int)),hi]
  by_cases g:0<A
  ·rw[dl g]
   exact zI7 hn ho hq hu ec hB bt A (m+1) _ _ _ (by omega) (fun t ht=>aB.t t ht) av (Ke aB.b hB1) hC'
  ·obtain rfl:A=0:=by omega
   refine⟨(_,_),?_,?_,hC'⟩
   ·simp only;rw[zM];unfold zDU;simp only;rw[dj (by omega),zG]
   ·simp only;rw[zM];unfold zFw;simp only;rw[dj (by omega),zG]
end
end Go.Pl

namespace Go.Pl
open Go Go.Ab Go.Wk Go.Pc GrT
theorem zBV.spres{n:Nat}{O:List Int}{P:Mx}{C:List Mx}(h:zBV n P C)(hn:n≤14)(hO:O.length=n):uG ⟨O,P,C⟩:=by
 have hc:∀u∈C,u.length≤14:=fun u hu=>by obtain⟨i,hi,e⟩:=Q2.1 hu;have:=h.c i (by rw[←h.cl];exact hi);rw[J4,J5 hi,Kc,e]at this;omega
 have hC:∀u∈C,c2 u≤210:=fun u hu=>by
  have h1:=zIx (c:=c1) (b:=14) (xs:=u) fun y hy=>by have:=h.cr u hu y hy;simp only[c1];omega
  have h2:=hc u hu;have h3:u.length*14≤14*14:=Jp 14 h2;simp only[c2];omega
 refine⟨?_,?_,?_⟩
 ·simp only[S1,c1];omega
 ·have h1:=zIx (c:=c1) (b:=14) (xs:=P) fun y hy=>by
   have:=h.pr y hy;simp only[c1];omega
  have h2:=h.pl;have h3:P.length*14≤14*14:=Jp 14 (by omega);simp only[S2,c2];omega
 ·have h1:=zIx (c:=c2) (b:=210) (xs:=C) hC
  have h2:=h.cl;have h3:C.length*210≤14*210:=Jp 210 (by omega);simp only[S3,c3];omega
theorem zMN{os:List Int}:zBV os.length (trv os).zV (trv os).zB:=by
 refine⟨sV,fun v hv=>?_,sV,fun i hi=>?_,fun u hu v hv=>?_⟩
 ·simp[trv,gl]at hv;rw[←hv.2];simp
 ·simp[trv,gl,hi]
 ·simp[trv,gl]at hu
  obtain⟨i,hi,rfl⟩:=hu;simp at hv;obtain⟨_,_,rfl⟩:=hv;exact wK _ _
section
variable {x:SPr}{w:Pres x∧xD (suf x 0)}{q n N:Nat}
variable (hN:pr x.zA x.zA.length=(N:Int)) (gc:N≤1000)
 include hN gc
theorem zOL:TB q n N ([]:List (EA x w)) ((J1 N ([]:List Int)).set 0 (J1 n 0)):=by
 refine⟨by simp,fun a=>?_⟩;rw[yT];have gG:=zA6 hN gc a
 by_cases h:a=1
 ·subst h
  rw[zBU,Ky (by simp;rw[zBU]at gG;exact gG)];have:xpo q ([]:List (EA x w)) 1=df []:=by
   cases he:xpo q ([]:List (EA x w)) 1 with
   |none=>exact absurd (zDE.2 rfl) (uA.1 he)
   |some e=>rw[Ji (wO he).1.1]
  rw[tvx,this];simp
 ·have h0:nE a≠0:=fun e=>h (tW hN gc (e.trans zBU.symm))
  rw[Hd (by omega),Js,if_pos gG];have:xpo q ([]:List (EA x w)) a=dg:=uA.2 fun e=>h (zDE.1 e)
  rw[tvx,this]
end
theorem zQB{q:Nat}(hq:q=2∨q=3∨q=5∨q=7):∀d,0<d→d<q→ ∃u v,u*d=1+q*v:=by
 rcases hq with rfl|rfl|rfl|rfl<;>intro d d0 d1
 ·obtain rfl:d=1:=by omega
  exact⟨1,0,rfl⟩
 ·rcases(by omega:d=1∨d=2)with rfl|rfl
  ·exact⟨1,0,rfl⟩
  ·exact⟨2,1,rfl⟩
 ·rcases(by omega:d=1∨d=2∨d=3∨d=4)with rfl|rfl|rfl|rfl
  ·exact⟨1,0,rfl⟩
  ·exact⟨3,1,rfl⟩
  ·exact⟨2,1,rfl⟩
  ·exact⟨4,3,rfl⟩
 ·rcases(by omega:d=1∨d=2∨d=3∨d=4∨d=5∨d=6)with rfl|rfl|rfl|rfl|rfl|rfl
  ·exact⟨1,0,rfl⟩
  ·exact⟨4,1,rfl⟩
  ·exact⟨5,2,rfl⟩
  ·exact⟨2,1,rfl⟩
  ·exact⟨3,2,rfl⟩
  ·exact⟨6,5,rfl⟩
theorem zJf{x:SPr}(hx:zAR x){N:Nat}(hN:pr x.zA x.zA.length=(N:Int))(da:N≤27)(eZ:f_t x=df (N:Int))(hal:f_E x=df (els x N))(ho:∀d,d<x.zA.length→at0 x.zA d=at0 x.zA 0):
  ∃g,f_d x=df g∧f_i x=df g∧uG g:=by
 have h6:=hx.2.2.n6;have w:Pres x∧xD (suf x 0):=⟨hx.1,hx.2.1⟩;have bt:1≤N:=by have:=sT (os:=x.zA) (i:=x.zA.length) (fun j hj=>hx.1.os.2 j hj);omega
 have pd:zBV x.zA.length (trv x.zA).zV (trv x.zA).zB:=zMN;have gv:zGH x=df (J1 x.zA.length 0):=by unfold zGH;rw[yI (by omega),bs]
 obtain⟨v0,fp⟩:∃v,ixO (J1 N ([]:List Int)) 0=df v:=⟨_,wN (v:=J1 N ([]:List Int)) (i:=0) [] (by simp;omega)⟩;unfold f_d f_i;rw[zHu (by omega),bs,eZ,bs,yI (by omega),bs,gv,bs,fp,bs,zD (by omega) (by omega),bs]
 by_cases g:x.zA.length=0
 ·have ez:x.zA=[]:=Ji g
  rw[show((x.zA.length:Int)==0)=dh from by rw[g];rfl,zH,zM];unfold zDU;simp only
  rw[dj (by omega),zG];refine⟨⟨[],[],[]⟩,?_,rfl,by simp[uG,S1,S2,S3,c1,c2,c3,sm]⟩;rw[ez];rfl
 ·have hp:=hx.1.os.2 0 (by omega)
  obtain⟨q,hq⟩:=Int.eq_ofNat_of_zero_le (a:=at0 x.zA 0) (by have:=hp.pos;omega);have hq4:q=2∨q=3∨q=5∨q=7:=by unfold uH at hp;omega
  have cK:∀d,d<x.zA.length→at0 x.zA d=(q:Int):=fun d hd=>(ho d hd).trans hq
  have aj:=zHx cK x.zA.length (Jg _);have hqn:N=q ^ x.zA.length:=by rw[hN]at aj;exact_mod_cast aj
  have hn4:x.zA.length≤4:=by
   refine Classical.byContradiction fun h=>?_
   have h1:2 ^ 5≤q ^ x.zA.length:=Ke (U0 (by omega:2≤q) 5) (Lf (by omega) (by omega));omega
  have hB:N ^ x.zA.length≤1000000:=Ke (Ke (U0 da _) (Lf (by omega) hn4)) (by decide);obtain⟨r,r1,r2,r3⟩:=zI7 (w:=w) (n:=x.zA.length) hN (by omega) rfl cK hq4 (zQB hq4) eZ hB bt x.zA.length 0 (trv x.zA).zV (trv x.zA).zB [[]] (by omega) (fun t ht=>by simp at ht;rw[ht];exact⟨rfl,trivial⟩) (by simp) (by simp) pd;rw[Jc,List.map_nil,←zFs hN (by omega) (zOL hN (by omega))]at r1;refine⟨⟨x.zA,r.1,r.2⟩,?_,?_,r3.spres (by omega) rfl⟩
  ·rw[show zC (zDU x) ((trv x.zA).zV,(trv x.zA).zB,[(zE.mk [] ((J1 N ([]:List Int)).set (0:Int).toNat (J1 x.zA.length 0)))],(x.zA.length:Int)-1)=df r from r1,bs];rfl
  ·rw[show((x.zA.length:Int)==0)=di from beq_false_of_ne (by omega),zG,zKK (w:=w) hN (by omega) hal,bs,show ixO x.zA 0=df (at0 x.zA 0)from yR (i:=0) (by omega),bs,hq,zIX rfl (by omega),bs,bs]
   rw[show zC (zFw x (mtb x N) (q:Int)) ([[]],gl x.zA.length (fun _=>J1 x.zA.length 0),gl x.zA.length (unC x.zA.length),(x.zA.length:Int)-1)=df r from r2,bs]
theorem zGE(x:SPr):(f:Nat)→(hf:f=0∨f=1)→x.zA.length≤1000000→ ∃r,zC (zFv x) (f:Int)=df r∧((r=.inl ()∧ ∀d,d<x.zA.length→at0 x.zA d=at0 x.zA 0)∨(r=.inr (⟨[],[],[]⟩,5)∧ ¬ ∀d,d<x.zA.length→at0 x.zA d=at0 x.zA 0)):=fun f hf hl=>
 vG (body:=zFv x) (fun i s=>s=((f+i:Nat):Int)∧ ∀d,d<f+i→d<x.zA.length→at0 x.zA d=at0 x.zA 0) (x.zA.length-f) (fun i s hi ⟨hs,h⟩=>by
  subst hs;unfold zFv;rw[xR (by omega),zH,yR (by omega),bs,show(0:Int)=((0:Nat):Int)from rfl,yR (by omega),bs]
  by_cases g:at0 x.zA (f+i)=at0 x.zA 0
  ·left
   rw[zD3 g,zG,zD (by omega) (by omega),bs];refine⟨_,rfl,rfl,fun d hd hd2=>?_⟩
   by_cases e:d=f+i
   ·rw[e];exact g
   ·exact h d (by omega) hd2
  ·right
   rw[zD4 g,zH];exact⟨_,rfl,.inr ⟨rfl,fun k=>g (k _ (by omega))⟩⟩) (fun s ⟨hs,h⟩=>by
  subst hs;unfold zFv;rw[dj (by omega),zG];exact⟨_,rfl,.inl ⟨rfl,fun d hd=>h d (by omega) hd⟩⟩) ⟨rfl,fun d hd _=>by
   obtain rfl:d=0:=by omega
   rfl⟩
theorem zKW(x:SPr):zPi x=zFv x:=rfl
theorem tX{x:SPr}(hx:uG x):∃g k,f_z x=df (g,k)∧f_T x=df (g,k)∧uG g:=by
 have ez:uG ⟨[],[],[]⟩:=by simp[uG,S1,S2,S3,c1,c2,c3,sm]
 unfold f_z f_T;rcases(zHs hx.1).both (zBw hx.1)with⟨s1,i1,hc⟩|⟨s1,i1,_⟩
 ·rw[s1,i1,bs,bs,Ju,zG,zG]
  obtain⟨N,hN,_,o1,o2,o3⟩:=zBT hc.2.2;have h6:=hc.2.2.n6;rw[o1,o2,bs,bs]
  by_cases g:(N:Int)> 27
  ·rw[dl g,zH,zH]
   exact⟨_,_,rfl,rfl,ez⟩
  ·rw[dj g,zG,zG]
   obtain⟨r,r1,r2⟩:=zGE x 1 (.inr rfl) (by omega);obtain⟨t,t1,t2⟩:=zGE x 0 (.inl rfl) (by omega);rw[zKW,show zC (zFv x) 1=df r from r1,show zC (zFv x) 0=df t from t1,bs,bs];rcases r2 with⟨rfl,r3⟩|⟨rfl,r3⟩
   ·rcases t2 with⟨rfl,_⟩|⟨_,t3⟩
    ·obtain⟨p,p1,p2,p3⟩:=zJf hc hN (by omega) o2 o3 r3
     simp only
     rw[p1,p2];exact⟨_,_,rfl,rfl,p3⟩
    ·exact absurd r3 t3
   ·rcases t2 with⟨_,t3⟩|⟨rfl,_⟩
    ·exact absurd t3 r3
    ·exact⟨_,_,rfl,rfl,ez⟩
 ·rw[s1,i1,bs,bs,La,zH,zH]
  exact⟨_,_,rfl,rfl,ez⟩
end Go.Pl

namespace Go.Pl
open Go Go.Ab Go.Wk Go.Pc
theorem sW(x0:SPr)(v0:zIs x0)
  (h:uG x0→ ∃g k,f_z x0=df (g,k)∧f_T x0=df (g,k)∧uG g):zNd x0=df dh:=by
 unfold zNd;rw[zDz v0 (by decide) (by decide),bs];rcases zM5 (c:=zGi x0) (b:=1048576) (by decide) (by decide)with e|⟨e,a0,b0,w0⟩<;>rw[e]
 ·rfl
 have s0:uG x0:=uG.of w0;obtain⟨g,k,hs,hi,sg⟩:=h s0;have t0:=zC5 s0;have tg:=zC5 sg;rw[zG,zD0 s0,bs];simp only[bs];rw[hs,bs,hi,bs];simp only
 rw[tU sg,bs];simp only[Ju,zG,bne_self_eq_false];rw[tU s0,bs,Ju,zG,tD s0 (by decide) (by decide),bs];simp only
 rw[dj (by omega),zG,bs,Ju,zG];rw[tD sg (by decide) (by decide),bs];simp only
 rw[zBR sg (by decide) (by decide),bs,dj (by omega),zG,bne_self_eq_false,zG,bs];simp only
 rw[tU sg,bs,Ju,zG,bne_self_eq_false,zG,bs,dj (by omega),zG,bne_self_eq_false,zG]
theorem tY(x0:SPr)(v0:zIs x0):zNd x0=df dh:=
 sW x0 v0 tX
end Go.Pl
