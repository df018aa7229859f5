/- The program's ComplementsOf returns what the reference's returns,for all arguments;no conditions. -/
import Derived.Test.YtfaocpkdikjohaaGreatPlB
open List renaming replicate→J1,getD_eq_getElem?_getD→J2,getElem?_eq_getElem→J3,mem_map→Jg,length_cons→Jh,map_cons→Jk,length_map→Jl,length_take→Jt,getElem?_map→Ju,getElem_mem→K9,mem_range→Lb,map_append→Lg,map_nil→Lr,flatMap_cons→Ls,drop_eq_getElem_cons→Lt,length_nil→Lu,drop_zero→Hx,mem_flatMap→Uf,map_congr_left→Q7,map_map→Jb0,drop_length→Jcu
open Int renaming toNat_natCast→J7,emod_eq_of_lt→K6,zero_add→Ku,natCast_mul→Ld,mul_one→Hc,mul_zero→G4,add_zero→U7,one_mul→Q9,emod_add_emod→Jcb
open Nat renaming le_refl→Ji
open Bool renaming not_true→Jj,not_false→Js
open Option renaming some→Lw,map_some→Hs,map_none→Jb3
namespace Go.Pl
open Go Go.Ab Go.Wk Go.Pc
theorem zOP{p:Int}(hp:Prime p){c N:Nat}(hcN:c+N≤100000){A:Mx}(hr:∀i,i<N→Row p c (A.getD i []))(hl:A.length=N){b:List Int}(hb:Row p c b){r:List Int}(q:f_R p A (c:Int) b=some (r,true)):
  ∃K pk,f_G p A (c:Int)=some K∧Red p N K pk∧Row p N r∧ ∀i,i<K.length→at0 r (pk i)=0:=by
 have h7:=hp.pos;obtain⟨W,pv,t,h,h2,h3⟩:=Nul.get hp hcN hr hl;have hy:=zEO hp hcN h hb t;have hK:=h.nred hp hcN;have hKl:(nul c t W).length≤N:=hK.len_le;have hx:=zJh hp hcN h (b:=b);have hcl:=zBv hp (by omega) hK hx (nul c t W).length;have hz:=zLX hp (by omega) hK hx (nul c t W).length (Ji _);have hker:f_G p A (c:Int)=some (nul c t W):=by unfold f_G;rw[tH hcN hr hl,bs,h3,bs,zCh hp hcN h,bs,(zCg hp (by omega) hK).2,bs]
 have htl:((sy p c N W pv b t).take c).length=c:=by rw[Jt,hy.1];omega
 rw[zBy hp hcN h h2 hb]at q;rcases zAV (v:=(sy p c N W pv b t).take c) (by omega)with⟨z1,_⟩|⟨z1,_⟩
 ·rw[z1,bs,Jj,zE]at q
  cases q;exact⟨_,_,hker,hK,hcl,hz⟩
 ·rw[z1,bs,Js,zH]at q
  cases q
def LtK(n:Nat)(K:Mx)(pk:Nat→Nat)(i:Nat)(a b:List Int):Prop:=∃k,k<n∧(∀l,i≤l→l<K.length→k<pk l)∧(∀j,j<k→at0 a j=at0 b j)∧at0 a k<at0 b k
section
variable {p:Int} (hp:Prime p) {n:Nat}{K:Mx}{pk:Nat→Nat} (hK:Red p n K pk)
 include hp hK
theorem zAZ{i j:Nat}(hi:i<K.length)(hj:j<pk i){v:List Int}(hv:Row p n v){c:Int}:at0 (xK p n v c (K.getD i [])) j=at0 v j:=by have hn:=hK.lt i hi;have h0:=hK.low i hi j hj;have:=hv.2 j (by omega);rw[xK,yB (by omega),show at0 (K.getD i []) j=0 from h0,G4,U7];have:=hp.pos;exact K6 (by omega) (by omega)
theorem zEe:∀(k i:Nat)(L M:Mx),i+k=K.length→(∀v∈L,Row p n v)→(∀v∈L,∀l,i≤l→l<K.length→at0 v (pk l)=0)→L.Pairwise (LtK n K pk i)→zCm p n (K.drop i) L=some M→M.Pairwise (LtK n K pk K.length)∧ ∀v∈M,Row p n v
 |0,i,L,M,hi,hL,_,hs,hM=>by
  obtain rfl:i=K.length:=by omega
  rw[Jcu]at hM;cases hM;exact⟨hs,hL⟩
 |k+1,i,L,M,hi,hL,hz,hs,hM=>by
  have h7:=hp.pos;have hi2:i<K.length:=by omega
  have hpi:=hK.lt i hi2;have ed:K.drop i=K.getD i []::K.drop (i+1):=by rw[Lt hi2,J2,J3 hi2];rfl
  rw[ed]at hM;simp only[zCm]at hM;split at hM
  ·cases hM
  ·refine zEe k (i+1) (uT p n (K.getD i []) L) M (by omega) (zIo hp) (fun v hv l hl1 hl2=>?_) ?_ hM
   ·obtain⟨u,hu,hv⟩:=Uf.1 hv
    obtain⟨c,_,rfl⟩:=Jg.1 hv;have:=hK.lt l hl2;rw[xK,yB this,hz u hu l (by omega) hl2,show at0 (K.getD i []) (pk l)=0 from hK.off l i hl2 hi2 (by omega)];simp
   ·rw[uT,List.pairwise_flatMap]
    refine⟨fun a ha=>?_,hs.imp_of_mem fun{a b} ha hb hab=>?_⟩
    ·rw[gl,List.pairwise_map]
     refine(List.pairwise_lt_range).imp_of_mem fun{c c'} hc hc' hcc=>⟨pk i,hpi,fun l h1 h2=>hK.mono i l (by omega) h2,fun j hj=>by rw[zAZ hp hK hi2 hj (hL a ha),zAZ hp hK hi2 hj (hL a ha)],?_⟩
     have e0:=hz a ha i (Ji _) hi2;have e1:at0 (K.getD i []) (pk i)=1:=hK.one i hi2;have g1:=Lb.1 hc;have g2:=Lb.1 hc';rw[xK,xK,yB hpi,yB hpi,e0,e1,Hc,Hc,Ku,Ku,K6 (by omega) (by omega),K6 (by omega) (by omega)];omega
    ·intro u hu w hw
     obtain⟨c,_,rfl⟩:=Jg.1 hu;obtain⟨c',_,rfl⟩:=Jg.1 hw;obtain⟨k,k1,k2,k3,k4⟩:=hab;have hk:=k2 i (Ji _) hi2;refine⟨k,k1,fun l h1 h2=>k2 l (by omega) h2,fun j hj=>?_,?_⟩
     ·rw[zAZ hp hK hi2 (by omega) (hL a ha),zAZ hp hK hi2 (by omega) (hL b hb)]
      exact k3 j hj
     ·rw[zAZ hp hK hi2 hk (hL a ha),zAZ hp hK hi2 hk (hL b hb)]
      exact k4
 omit hK in
theorem zOQ{v w b:List Int}{c:Int}:xK p n (xK p n v 1 w) c b=xK p n (xK p n v c b) 1 w:=by
  refine zW fun j hj=>?_
  have _:=hp;rw[xK,xK,yB hj,yB hj,Jcb,Jcb]
  congr 1;omega
 omit hK in
theorem zFl{w b:List Int}:∀L:Mx,uT p n b (L.map fun v=>xK p n v 1 w)=(uT p n b L).map fun v=>xK p n v 1 w
  | []=>rfl
  |v::L=>by
    have ih:=zFl (w:=w) (b:=b) L;simp only[uT,Jk,Ls,Lg]at ih ⊢
    rw[ih]
    congr 1
    rw[gl,gl,Jb0];exact Q7 fun c _=>zOQ hp
 omit hK in
theorem zFm{w:List Int}:∀(B L:Mx),zCm p n B (L.map fun v=>xK p n v 1 w)=(zCm p n B L).map fun M=>M.map fun v=>xK p n v 1 w
  | [],_=>rfl
  |b::B,L=>by
    simp only[zCm,Jl];split
    ·rfl
    ·rw[zFl hp,zFm B]
end
theorem zMy{n:Nat}(hn:n≤1000){a b:List Int}(ha:a.length=n)(hb:b.length=n){k:Nat}(hk:k<n)(h1:∀j,j<k→at0 a j=at0 b j)(h2:at0 a k<at0 b k):zUA b a=some false:=by
 unfold zUA;have:=zN (body:=zLs b a) (r:=.inr false) (fun i=>(i:Int)) k (fun i hi=>by
  unfold zLs;rw[hb,yI (by omega),zH,ha,yI (by omega),zH,yE (by omega),bs,yE (by omega),bs,jK (h1 i hi).symm,zE,zD (by omega) (by omega),bs];rfl) (by
  unfold zLs;rw[hb,yI hk,zH,ha,yI hk,zH,yE (by omega),bs,yE (by omega),bs,qC (by omega),zH,bs,bs,decide_eq_false (by omega)])
 rw[show((0:Nat):Int)=0 from rfl]at this;rw[this,bs]
theorem zOR{n:Nat}(hn:n≤1000){K:Mx}{pk:Nat→Nat}{i0:Nat}{M:Mx}(hM:M.length≤1000)(hl:∀v∈M,v.length=n)(hs:M.Pairwise (LtK n K pk i0)):zF zMI (M,1)=some M:=by
 by_cases h0:M.length=0
 ·rw[yL]
  unfold zMI;simp only
  rw[h0,decide_eq_false (by omega),zE]
 ·have:=zN (body:=zMI) (r:=M) (fun i=>(M,((i+1:Nat):Int))) (M.length-1) (fun i hi=>by
   have hi1:i+1<M.length:=by omega
   have hpw:=(List.pairwise_iff_getElem.1 hs) i (i+1) (by omega) hi1 (by omega);obtain⟨k,k1,_,k3,k4⟩:=hpw;have g0:ixO M ((i+1:Nat):Int)=some M[i+1]:=by rw[qB hi1]
   have g1:ixO M ((i:Nat):Int)=some M[i]:=by rw[qB (by omega)]
   have hin:zF zUB (M,((i+1:Nat):Int))=some M:=by
    rw[yL];unfold zUB;simp only
    rw[decide_eq_true (by omega),zH,g0,bs,show((i+1:Nat):Int)-1=(i:Int)from by omega,zD (by omega) (by omega),bs,g1,bs,zMy hn (hl _ (K9 _)) (hl _ (K9 _)) k1 k3 k4,bs,zE]
   unfold zMI;simp only
   rw[yI hi1,zH,hin,bs,zD (by omega) (by omega),bs];rfl) (by
   unfold zMI;simp only
   rw[show M.length-1+1=M.length from by omega,yS,zE])
  exact this
theorem co3:zWG=zPw:=rfl
theorem zCD{x:SPr}{m:zC}{T:Mx}(hx:zBU x)(hm:zG2 m)(hT:S2 T):∃g k,f_m x m T=some (g,k)∧f_S x m T=some (g,k)∧S3 g:=by
 have hTl:T.length≤1048576:=hT.len;have hnil:S3 ([]:List Mx):=by simp[S3,c3,sm]
 obtain⟨c,e1,e2,e3⟩:=zON (L:=[T]) hx hm hTl hTl (by simp) (fun t=>by simp);unfold f_m f_S;rw[e1,e2,bs,bs]
 by_cases g:c=0
 ·obtain⟨hc,D,hD,hr,kT,_⟩:=e3 g
  subst g;have h6:=hc.2.2.n6;have h1:=hD.d1;have h3:=hD.d3;have h7:=hD.p.pos;have hb:=sF x.zA.length (by omega);obtain⟨hle,hnD⟩:=zR3 hc.2.2 hD;obtain⟨t1,t2,t3⟩:=zHa hc.2.2 hD kT.1;obtain⟨u,ok,s1,s2,s3,s4⟩:=zCl hc.2.2 hD t1;obtain⟨u',ok',f1,f2,_⟩:=zMx hc.2.2 hD kT.1;rw[s3]at f2;cases f2;rw[show((0:Int) != 0)=false from rfl,zE,zE,f1,bs,t3,bs,s3,bs];cases ok with
  |false=>
   simp only[Js,zH];exact⟨_,_,rfl,rfl,hnil⟩
  |true=>
   simp only[if_true,Jj,zE];have hdl:(zCk x m D).length=x.zA.length*D:=yW;have hng:Row m.Prime (base x.zA.length x.zA.length*D) (ngv m.Prime (base x.zA.length x.zA.length*D) T.flatten):=tP hD.p;obtain⟨K0,pk0,k1,k2,k3,k4⟩:=zOP hD.p (c:=base x.zA.length x.zA.length*D) (N:=x.zA.length*D) (by omega) (A:=zCk x m D) (fun i hi=>zAY hc.2.2 hD hi) hdl hng s1;obtain⟨K,pk,j1,j2,j3⟩:=zMk hc.1 hD;have eK:K=K0:=by
    have hbl:=zKN hc.1 h6;have e:zPs x m=some K0:=by unfold zPs;rw[jW hc.1 hD,bs,zAb hc.1,bs,hD.d,←Ld,hbl,zD (by omega) (by omega),bs];rw[show f_G m.Prime (zAc (x.zA.length*D) (fun k=>dfc m D (uv x.zA.length D k)) (xN x)) ((base x.zA.length x.zA.length*D:Nat):Int)=some K0 from k1,bs]
    rw[j2]at e;exact Lw.inj e
   subst eK;have hKl:=k2.len_le;have hfl:(qE x.zA.length D u).flatten=u:=zR4 h1 k3.1;have hcl:(qE x.zA.length D u).length=x.zA.length:=yW;have hz:Row m.Prime (x.zA.length*D) (J1 (x.zA.length*D) (0:Int)):=tS (by omega);have hsh:[u]=([J1 (x.zA.length*D) (0:Int)]:Mx).map fun v=>xK m.Prime (x.zA.length*D) v 1 u:=by
    simp only[Jk,Lr]
    congr 1
    refine(wY k3.1).trans (zW fun j hj=>?_);have:=k3.2 j hj;rw[uS,yB hj,Ku,Q9,K6 (by omega) (by omega)]
   have hB:∀i,i<K.length→Row m.Prime (x.zA.length*D) (K.getD i []):=k2.row;obtain⟨q1,_,q3⟩:=zDz hD.p (n:=x.zA.length*D) (by omega) (m:=m) rfl hB (by omega) K.length 0 [u] (by omega) (by simp) (fun k hk=>by
    obtain rfl:k=0:=by simpa using hk
    exact k3)
   obtain⟨_,w2,w3⟩:=zDz hD.p (n:=x.zA.length*D) (by omega) (m:=m) rfl hB (by omega) K.length 0 [J1 (x.zA.length*D) (0:Int)] (by omega) (by simp) (fun k hk=>by
    obtain rfl:k=0:=by simpa using hk
    exact hz)
   have hsort:=zEe hD.p k2 K.length 0 [u];rw[Hx]at q1 q3 w2 w3 hsort;rw[show((0:Nat):Int)=0 from rfl]at q1 w2;have hshift:=zFm hD.p (n:=x.zA.length*D) (w:=u) K [J1 (x.zA.length*D) (0:Int)];rw[←hsh]at hshift;rw[zEK (by omega) (by rw[hfl,k3.1];omega),hfl,bs,j1,bs,co3,q1,bs,j2,bs,hD.d,←Ld,zD (by omega) (by omega),bs];unfold f_u;rw[yO (by omega),bs,w2,bs];cases hcm:zCm m.Prime (x.zA.length*D) K [J1 (x.zA.length*D) (0:Int)]with
   |none=>
    rw[hcm]at hshift;simp only[Jb3]at hshift;rw[hshift];simp only[bs,Js,zH];exact⟨_,_,rfl,rfl,hnil⟩
   |some M=>
    rw[hcm]at hshift;simp only[Hs]at hshift;obtain⟨m1,m2⟩:=w3 M hcm;obtain⟨n1,n2⟩:=hsort (M.map fun v=>xK m.Prime (x.zA.length*D) v 1 u) (by omega) (fun v hv=>by
     rw[List.mem_singleton]at hv;rw[hv];exact k3) (fun v hv l _ hl=>by
     rw[List.mem_singleton]at hv;rw[hv];exact k4 l hl) (List.pairwise_singleton _ _) hshift
    rw[hshift];simp only[bs,Jj,zE];have hml:(M.map fun v=>xK m.Prime (x.zA.length*D) v 1 u).length=M.length:=Jl _;rw[zOR (n:=x.zA.length*D) (by omega) (by omega) (fun v hv=>(n2 v hv).1) n1,bs];have hget:∀i,i<M.length→(M.map fun v=>xK m.Prime (x.zA.length*D) v 1 u).getD i []=xK m.Prime (x.zA.length*D) (M.getD i []) 1 u:=fun i hi=>by rw[J2,Ju,J3 hi,J2,J3 hi];rfl
    rw[jP (body:=zTd m (M.map fun v=>xK m.Prime (x.zA.length*D) v 1 u)) M.length (fun i=>qE x.zA.length D (xK m.Prime (x.zA.length*D) (M.getD i []) 1 u)) (fun i acc hi ha=>by
     unfold zTd;simp only
     rw[hml,yI hi,zH,yC [] (by omega),bs,hget i hi,hD.d,zGP h1 (by omega) (tP hD.p).1 (by omega),bs,yF (by simp only[Jh,Lu];omega),bs,zD (by omega) (by omega),bs];rfl) (fun acc=>by
     unfold zTd;simp only
     rw[hml,yS,zE]),bs]
    have himpl:=zN (body:=zPz m (qE x.zA.length D u,true) (M,true)) (r:=gl M.length fun i=>qE x.zA.length D (xK m.Prime (x.zA.length*D) (M.getD i []) 1 u)) (fun i=>(gl i fun i=>qE x.zA.length D (xK m.Prime (x.zA.length*D) (M.getD i []) 1 u),gl M.length fun j=>if j<i then xK m.Prime (x.zA.length*D) (M.getD j []) 1 u else M.getD j [],(i:Int))) M.length (fun i hi=>by
     unfold zPz;simp only
     rw[yI hi,zH,zFj hi,bs,if_neg (Nat.lt_irrefl i),jM (by omega) (by rw[hfl,k3.1];omega),hfl,bs,sT hD.p (m2 i hi) k3 (by omega) (by omega),bs,hD.d,zDw h1 (tP hD.p).1 (by omega),bs,yF (by rw[yW];simp only[Jh,Lu];omega),bs,zD (by omega) (by omega),bs,sM (F:=fun i=>qE x.zA.length D (xK m.Prime (x.zA.length*D) (M.getD i []) 1 u)),zJd,J7]
     congr 4
     refine tR fun j _=>?_
     by_cases e:j=i
     ·subst e;rw[if_pos rfl,if_pos (by omega)]
     ·rw[if_neg e]
      by_cases e2:j<i
      ·rw[if_pos e2,if_pos (by omega)]
      ·rw[if_neg e2,if_neg (by omega)]) (by
     unfold zPz;simp only
     rw[yS,zE])
    have e0:(gl M.length fun j=>if j<0 then xK m.Prime (x.zA.length*D) (M.getD j []) 1 u else M.getD j [])=M:=by
     refine List.ext_getElem yW fun i h1 h2=>?_
     simp only[gl,List.getElem_map,List.getElem_range,Nat.not_lt_zero,if_false];rw[J2,J3 h2];rfl
    rw[e0,show((0:Nat):Int)=0 from rfl]at himpl;rw[show zF (zPz m (qE x.zA.length D u,true) (M,true)) ([],M,0)=_ from himpl,bs];refine⟨_,_,rfl,rfl,?_⟩;have z1:=zNQ (c:=Pl.c2) (b:=6+6*3) (xs:=gl M.length fun i=>qE x.zA.length D (xK m.Prime (x.zA.length*D) (M.getD i []) 1 u)) (fun r hr=>by
     obtain⟨i,_,rfl⟩:=Jg.1 hr;have e2:=zNQ (c:=Pl.c1) (b:=3) (xs:=qE x.zA.length D (xK m.Prime (x.zA.length*D) (M.getD i []) 1 u)) (fun r hr=>by obtain⟨i,_,rfl⟩:=Jg.1 hr;show(mkv _ _).length≤3;rw[zZ];exact h3)
     have e3:(qE x.zA.length D (xK m.Prime (x.zA.length*D) (M.getD i []) 1 u)).length=x.zA.length:=yW;simp only[Pl.c2];omega)
    have z2:(gl M.length fun i=>qE x.zA.length D (xK m.Prime (x.zA.length*D) (M.getD i []) 1 u)).length=M.length:=yW;show(gl M.length fun i=>qE x.zA.length D (xK m.Prime (x.zA.length*D) (M.getD i []) 1 u)).length+sm Pl.c2 (gl M.length fun i=>qE x.zA.length D (xK m.Prime (x.zA.length*D) (M.getD i []) 1 u))≤1048576;omega
 ·rw[show(c != 0)=true from by simpa using g,zH,zH]
  exact⟨_,_,rfl,rfl,hnil⟩
theorem zEf(x0:SPr)(x1:zC)(x2:Mx)(v0:zNB x0)(v1:zT6 x1)(v2:VL (VL VI) x2)
  (h:zBU x0→zG2 x1→S2 x2→ ∃g k,f_m x0 x1 x2=some (g,k)∧f_S x0 x1 x2=some (g,k)∧S3 g):zUC x0 x1 x2=some true:=by
 unfold zUC;rw[zG3 v0 (by decide) (by decide),bs];rcases zIR (c:=zKg x0) (b:=1048576) (by decide) (by decide)with e|⟨e,a0,b0,w0⟩<;>rw[e]
 ·rfl
 rw[zE,zQE v1 a0 b0,bs];rcases zIR (c:=zQD x1) a0 b0 with e|⟨e,a1,b1,w1⟩<;>rw[e]
 ·rfl
 rw[zE,zE7 v2 a1 b1,bs];rcases zIR (c:=c2 x2) a1 b1 with e|⟨e,a2,b2,w2⟩<;>rw[e]
 ·rfl
 have s0:zBU x0:=zBU.of w0;have s1:zG2 x1:=zG2.of w1;have s2:S2 x2:=w2;obtain⟨g,k,hs,hi,sg⟩:=h s0 s1 s2;have t0:=zNR s0;have q1:=zIS (x:=x1.zI);have w1':=w1;simp only[zQD]at w1';have q2:=zLI (x:=x2);have qg:=zIS (x:=g);have sg':=sg;simp only[S3]at sg';rw[zE,zG4 s0,bs,zQF s1,bs,zE8 s2,bs];simp only[bs];rw[hs,bs,hi,bs];simp only
 rw[zBn sg,bs];simp only[beq_self_eq_true,Jj,zE,bne_self_eq_false];rw[zG5 s0,bs,Jj,zE,zQG s1,bs,Jj,zE,zE9 s2,bs,beq_self_eq_true,Jj,zE,zCB s0 (by decide) (by decide),bs];simp only
 rw[zLJ s1 (by omega) (by omega),bs];simp only
 rw[zBT s2 (by omega) (by omega),bs];simp only
 rw[decide_eq_false (by omega),zE,bs,Jj,zE];rw[zBo sg (by decide) (by omega),bs];simp only
 rw[zIQ sg (by decide) (by omega),bs,decide_eq_false (by omega),zE,bne_self_eq_false,zE,bs];simp only
 rw[zBn sg,bs,beq_self_eq_true,Jj,zE,bne_self_eq_false,zE,bs,decide_eq_false (by omega),zE,bne_self_eq_false,zE]
theorem zCE(x0:SPr)(x1:zC)(x2:Mx)(v0:zNB x0)(v1:zT6 x1)(v2:VL (VL VI) x2):zUC x0 x1 x2=some true:=
 zEf x0 x1 x2 v0 v1 v2 zCD
end Go.Pl
