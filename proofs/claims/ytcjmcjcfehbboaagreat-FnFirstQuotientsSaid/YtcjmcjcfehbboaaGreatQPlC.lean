/- x -/
import Derived.Test.YtcjmcjcfehbboaaGreatQPlB
open List renaming replicate→J1,getD_eq_getElem?_getD→J2,getElem?_eq_getElem→J4,length_singleton→Jd,take_of_length_le→Jg,mem_map→Jh,length_map→Jj,length_replicate→Jl,getElem?_map→Jp,mem_cons→Js,getElem_mem→Jt,length_cons→Jx,mem_append→K4,mem_range→K5,take_zero→Kv,take_add_one→Kw,map_append→L7,getElem_of_mem→Gx,map_congr_left→U7,idxOf_lt_length_of_mem→Uk,map_nil→Ja9,not_mem_nil→Jag,map_map→Jau
open Nat renaming le_refl→J7,zero_le→Jw,le_trans→Ko,eq_zero_or_pos→Jbn
open Int renaming toNat_natCast→J9,add_zero→Kd,mul_one→Kf,mul_zero→L3,pow_succ→Lo,tmod_eq_emod_of_nonneg→Gb,pow_pos→Um,add_emod_right→Un,pow_zero→Uv,lt_tmod_of_pos→Jak,tmod_lt_of_pos→Jbo
open Bool renaming not_true→Jo,not_false→K2
open Option renaming getD_some→Kr
open Option renaming some→jq,none→jr
open Bool renaming true→js,false→jt
namespace Go.Pl
open Go Go.Ab Go.Wk Go.Pc
theorem zP5{T:Mx}{F:Mx}{k:Int}{y:List Int}(hl:F.length≤1000)(hr:∀j,j<F.length→(F.getD j []).length≤1000):zC (zT8 (T,F,k) y) 0=jq ((F.idxOf y:Nat):Int):=by
 have eY:F.idxOf y≤F.length:=List.idxOf_le_length;refine zU (fun i=>(i:Int)) (F.idxOf y) (fun i hi=>?_) ?_
 ·unfold zT8
  simp only
  rw[xH (by omega),zJ,yO [] (by omega),bs,zFl (by have:=hr i (by omega);omega),bs,show((F.getD i [])==y)=jt from by simpa using zSg F i hi,K2,zJ,zH (by omega) (by omega),bs];rfl
 ·unfold zT8
  simp only
  by_cases h:y∈F
  ·have gE:=Uk h
   rw[xH gE,zJ,yO [] gE,bs,zFl (by have:=hr _ gE;omega),bs,zYq h,beq_self_eq_true,Jo,zK]
  ·rw[zHu h,wW,zK]
section
variable {p:Int}{W N:Nat}{im:Nat→List Int} (hp:Prime p) (hW:W≤14) (hP:p ^ W≤128) (hN:N≤14) (fR:∀k,k<N→Row p W (im k))
 include hp hW hP hN fR
theorem zUO{i:Nat}(hi:i<(xY p W im N i).length)(er:i≤1000){T0 F0:Mx}:
  zC (zT9 (elx p W) (gl N im) (T0,F0,(i:Int))) (tbF p W N im i,xY p W im N i,0)=jq (tbF p W N im (i+1),xY p W im N (i+1)):=by
 have h2:=hp.pos;have hm:(xY p W im N i).getD i []∈xY p W im N i:=by rw[J2,J4 hi];exact Jt hi
 have hv:=(zDY hp (im:=im) (N:=N) i).2 _ hm;rw[←zOz,←zSh];refine zU (fun k=>(mxF p W N im i k,inF p W im (xY p W im N i) i k,(k:Int))) N (fun k q=>?_) ?_
 ·have bw:=fR k q
  have hy:Row p W (adv p W ((xY p W im N i).getD i []) (im k)):=sU (by omega);have gv:=zO0 hp hW hP hN fR i k;have gD:FOk p W (inF p W im (xY p W im N i) i k):=zJG hp (zDY hp i) i k;unfold zT9;simp only
  rw[yK,xH q,zJ,zSi hp hW hP hN fR hi,bs,uD q,bs,zCU (tB hp hW) (tC hp hW) ((sX hp hW).2 hv) ((sX hp hW).2 bw),bs,jQ hp hW hv bw,zP5 (by omega) (fun j hj=>by
   have:(inF p W im (xY p W im N i) i k).getD j []∈inF p W im (xY p W im N i) i k:=by rw[J2,J4 hj];exact Jt hj
   have:=(gD.2 _ this).1;omega),bs]
  have pj:(((inF p W im (xY p W im N i) i k).idxOf (adv p W ((xY p W im N i).getD i []) (im k)):Nat):Int)=zFN p W N im i k:=rfl
  by_cases e:adv p W ((xY p W im N i).getD i []) (im k)∈inF p W im (xY p W im N i) i k
  ·have gE:=Uk e
   rw[zBw (by omega),zK,zJH q,bs,zT (by rw[yK];simp;omega),bs,zH (by omega) (by omega),bs,J9,pj,zJI,inF,adF,if_pos e];rfl
  ·rw[show((((inF p W im (xY p W im N i) i k).idxOf (adv p W ((xY p W im N i).getD i []) (im k)):Nat):Int)==((inF p W im (xY p W im N i) i k).length:Int))=js from by rw[zHu e];exact beq_self_eq_true _,zJ,
    zT (by simp only[Jd];omega),bs,zJH q,bs,zT (by rw[yK];simp;omega),bs,zH (by omega) (by omega),bs,J9,pj,zJI,inF,adF,if_neg e]
   rfl
 ·unfold zT9
  simp only
  rw[yK,wW,zK];rfl
theorem zSk{n:Nat}(hn:(xY p W im N n).length=n)(hi:∀i,i<n→i<(xY p W im N i).length)(bp:n≤128):f_B (elx p W) (gl N im)=jq (tbF p W N im n):=by
 unfold f_B;rw[yK,xJ (by omega),bs,zLl hp hN hW,bs];have key:zC (zQi (elx p W) (gl N im)) (J1 N [],[zeros W],0)=jq (tbF p W N im n):=by
  have:=zU (body:=zQi (elx p W) (gl N im)) (r:=tbF p W N im n) (fun i=>(tbF p W N im i,xY p W im N i,(i:Int))) n (fun i q=>by
   unfold zQi;simp only
   rw[xH (hi i q),zJ,zUO hp hW hP hN fR (hi i q) (by omega),bs,zH (by omega) (by omega),bs];rfl) (by
   unfold zQi;simp only
   rw[hn,wW,zK])
  rw[show tbF p W N im 0=J1 N []from by simp[tbF,gl,List.map_const']]at this;exact this
 rw[key,bs]
theorem zSl(hu:∀a,a<W→ ∃k,k<N∧im k=zX W a):∃n,(xY p W im N n).length=n∧(∀i,i<n→i<(xY p W im N i).length)∧(n:Int)=p ^ W:=by
 obtain⟨n,n1,n2,n3⟩:=zUM hp (W:=W) (N:=N) (im:=im);have:=hN;have:=hW;have:=hP;have:=fR;refine⟨n,n1,n2,?_⟩;have hz:zeros W∈xY p W im N n:=by obtain⟨G,hG⟩:=zCX p W im N 0 n;rw[show 0+n=n from by omega]at hG;rw[hG,xY];simp
 have cj:∀v,Row p W v→v∈xY p W im N n:=fun v hv=>zYp hp hz (fun a ha v hv=>by obtain⟨k,k1,k2⟩:=hu a ha;rw[←k2];exact zMK hp n1 n2 hv k1) hv
 have:=zSb hp.pos.1 cj;rw[n1]at this;omega
end
end Go.Pl

namespace Go.Pl
open Go Go.Ab Go.Wk Go.Pc
section
variable {p:Int} (hp:Prime p) {W:Nat} (hW:W≤4)
 include hp hW
theorem zUP:∀i,i≤W→0<p ^ i∧p ^ i≤2401:=fun i hi=>by
 have h2:=hp.pos;have a:0<p ^ i:=Um (by omega);have b:=zML hp i (4-i);rw[show i+(4-i)=4 from by omega]at b;have c:p ^ 4≤2401:=by rcases hp with h|h|h|h<;>rw[h]<;>decide
 omega
theorem zLq:zVr (elx p W)=jq (p ^ W):=by
 have h2:=hp.pos;unfold zVr;have key:=zU (body:=zL9 (elx p W)) (r:=p ^ W) (fun i=>(p ^ i,(i:Int))) W (fun i hi=>by
  have b:=zUP hp hW (i+1) hi;rw[Lo]at b;unfold zL9;simp only
  rw[zAl hp (by omega),xH hi,zJ,zBR hp (by omega) hi,bs,zH (by omega) (by omega),bs,zH (by omega) (by omega),bs,←Lo];rfl) (by
  unfold zL9;simp only
  rw[zAl hp (by omega),wW,zK])
 rw[Uv,show((0:Nat):Int)=0 from rfl]at key;rw[key,bs]
theorem zLr:zVq (elx p W)=jq (p ^ W):=by
 have h2:=hp.pos;unfold zVq;have key:=zU (body:=zL8 (elx p W)) (r:=p ^ W) (fun i=>(p ^ i,(i:Int))) W (fun i hi=>by
  have b:=zUP hp hW (i+1) hi;rw[Lo]at b;unfold zL8;simp only
  rw[zAl hp (by omega),xH hi,zJ,zBR hp (by omega) hi,bs,zH (by omega) (by omega),bs,zH (by omega) (by omega),bs,←Lo];rfl) (by
  unfold zL8;simp only
  rw[zAl hp (by omega),wW,zK])
 rw[Uv,show((0:Nat):Int)=0 from rfl]at key;rw[key,bs]
end
def SFp(F:zY):Prop:=(-1000≤F.Gens∧F.Gens≤1000)∧F.zO.length≤1000∧ ∀w∈F.zO,w.length≤1000
def Lt(n:Int)(a:Int):Prop:=a≠0∧ -n≤a∧a≤n
def WdI(n:Int)(w:List Int):Prop:=w.length≤64∧ ∀j,j<w.length→Lt n (at0 w j)
def zLs(F:zY):Prop:=(0≤F.Gens∧F.Gens≤4)∧F.zO.length≤12∧ ∀i,i<F.zO.length→WdI F.Gens (F.zO.getD i [])
theorem zIC{n:Int}{w:List Int}(hn:0≤n∧n≤4)(hw:w.length≤1000):IsB (zTj n w) (WdI n w):=by
 unfold zTj;rcases chk (body:=zLE n w) w.length 0 (Jw _) (fun i=>Lt n (at0 w i)) (fun _=>jt) (fun i _ hi _=>by
   unfold zLE;rw[xH hi,zJ,xV hi,bs]
   by_cases h0:at0 w i=0
   ·rw[h0,beq_self_eq_true,zJ]
    exact .inr ⟨rfl,fun h=>h.1 rfl⟩
   ·rw[zBw h0,zK,zH (by omega) (by omega),bs]
    rcases sM (at0 w i) (0-n) n with⟨e,q⟩|⟨e,q⟩
    ·rw[e,bs,Jo,zK,zH (by omega) (by omega),bs]
     exact .inl ⟨rfl,h0,by omega,q.2⟩
    ·rw[e,bs,K2,zJ]
     exact .inr ⟨rfl,fun h=>q ⟨by have:=h.2.1;omega,h.2.2⟩⟩) (by
   unfold zLE;rw[wW,zK])with⟨e,h⟩|⟨i,_,hi,e,h⟩
 ·rw[show((0:Nat):Int)=0 from rfl]at e
  rw[e,bs];simp only
  by_cases hl:w.length≤64
  ·rw[jw (by omega)]
   exact .inl ⟨rfl,hl,fun j hj=>h j (Jw _) hj⟩
  ·rw[ju (by omega)]
   exact .inr ⟨rfl,fun q=>hl q.1⟩
 ·rw[show((0:Nat):Int)=0 from rfl]at e
  rw[e,bs];exact .inr ⟨rfl,fun q=>h (q.2 i hi)⟩
theorem zP6{n:Int}{w:List Int}(hn:0≤n∧n≤4)(hw:w.length≤1000):IsB (zVX n w) (WdI n w):=by
 unfold zVX
 by_cases hl:w.length≤64
 ·rw[ju (by omega),zK]
  rcases chk (body:=zLG n w) w.length 0 (Jw _) (fun i=>Lt n (at0 w i)) (fun _=>jt) (fun i _ hi _=>by
    unfold zLG;rw[xH hi,zJ,xV hi,bs]
    by_cases h0:at0 w i=0
    ·rw[h0,beq_self_eq_true,zJ]
     exact .inr ⟨rfl,fun h=>h.1 rfl⟩
    ·rw[zBw h0,zK,bs,zH (by omega) (by omega),bs]
     rcases zCH (at0 w i) (0-n) n with⟨e,q⟩|⟨e,q⟩
     ·rw[e,bs,Jo,zK,zH (by omega) (by omega),bs]
      exact .inl ⟨rfl,h0,by omega,q.2⟩
     ·rw[e,bs,K2,zJ]
      exact .inr ⟨rfl,fun h=>q ⟨by have:=h.2.1;omega,h.2.2⟩⟩) (by
    unfold zLG;rw[wW,zK])with⟨e,h⟩|⟨i,_,hi,e,h⟩
  ·rw[show((0:Nat):Int)=0 from rfl]at e
   rw[e,bs];exact .inl ⟨rfl,hl,fun j hj=>h j (Jw _) hj⟩
  ·rw[show((0:Nat):Int)=0 from rfl]at e
   rw[e,bs];exact .inr ⟨rfl,fun q=>h (q.2 i hi)⟩
 ·rw[jw (by omega),zJ]
  exact .inr ⟨rfl,fun q=>hl q.1⟩
theorem zJJ{F:zY}(h:SFp F):IsB (zNm F) (zLs F):=by
 obtain⟨h1,h2,h3⟩:=h;have hw:∀i,i<F.zO.length→(F.zO.getD i []).length≤1000:=fun i hi=>h3 _ (by rw[J2,J4 hi];exact Jt hi)
 unfold zNm;rcases sM F.Gens 0 4 with⟨e,q⟩|⟨e,q⟩
 ·rw[e,bs,Jo,zK]
  by_cases hl:F.zO.length≤12
  ·rw[ju (by omega),zK]
   unfold zQd zVS;rcases sM F.Gens 0 6 with⟨e6,_⟩|⟨_,q6⟩
   ·rw[e6,bs,bs,Jo,zK]
    rcases chk (body:=zH0 F.Gens F.zO) F.zO.length 0 (Jw _) (fun i=>WdI F.Gens (F.zO.getD i [])) (fun _=>(1:Int)) (fun i _ hi _=>by
      unfold zH0;rw[xH hi,zJ,yO [] hi,bs];rcases zIC q (hw i hi)with⟨e,r⟩|⟨e,r⟩
      ·rw[e,bs,Jo,zK,zH (by omega) (by omega),bs]
       exact .inl ⟨rfl,r⟩
      ·rw[e,bs,K2,zJ]
       exact .inr ⟨rfl,r⟩) (by
      unfold zH0;rw[wW,zK])with⟨e,r⟩|⟨i,_,hi,e,r⟩
    ·rw[show((0:Nat):Int)=0 from rfl]at e
     rw[e,bs];exact .inl ⟨rfl,q,hl,fun i hi=>r i (Jw _) hi⟩
    ·rw[show((0:Nat):Int)=0 from rfl]at e
     rw[e,bs];exact .inr ⟨rfl,fun s=>r (s.2.2 i hi)⟩
   ·exact absurd (by omega) q6
  ·rw[jw (by omega),zJ]
   exact .inr ⟨rfl,fun s=>hl s.2.1⟩
 ·rw[e,bs,K2,zJ]
  exact .inr ⟨rfl,fun s=>q s.1⟩
theorem zJK{F:zY}(h:SFp F):IsB (zTw F) (zLs F):=by
 obtain⟨h1,h2,h3⟩:=h;have hw:∀i,i<F.zO.length→(F.zO.getD i []).length≤1000:=fun i hi=>h3 _ (by rw[J2,J4 hi];exact Jt hi)
 unfold zTw;rcases zCH F.Gens 0 4 with⟨e,q⟩|⟨e,q⟩
 ·rw[e,bs,Jo,zK]
  by_cases hl:F.zO.length≤12
  ·rw[ju (by omega),zK]
   rcases chk (body:=zLH F) F.zO.length 0 (Jw _) (fun i=>WdI F.Gens (F.zO.getD i [])) (fun _=>jt) (fun i _ hi _=>by
     unfold zLH;rw[xH hi,zJ,yO [] hi,bs];rcases zP6 q (hw i hi)with⟨e,r⟩|⟨e,r⟩
     ·rw[e,bs,Jo,zK,zH (by omega) (by omega),bs]
      exact .inl ⟨rfl,r⟩
     ·rw[e,bs,K2,zJ]
      exact .inr ⟨rfl,r⟩) (by
     unfold zLH;rw[wW,zK])with⟨e,r⟩|⟨i,_,hi,e,r⟩
   ·rw[show((0:Nat):Int)=0 from rfl]at e
    rw[e,bs];exact .inl ⟨rfl,q,hl,fun i hi=>r i (Jw _) hi⟩
   ·rw[show((0:Nat):Int)=0 from rfl]at e
    rw[e,bs];exact .inr ⟨rfl,fun s=>r (s.2.2 i hi)⟩
  ·rw[jw (by omega),zJ]
   exact .inr ⟨rfl,fun s=>hl s.2.1⟩
 ·rw[e,bs,K2,zJ]
  exact .inr ⟨rfl,fun s=>q s.1⟩
end Go.Pl

namespace Go.Pl
open Go Go.Ab Go.Wk Go.Pc
theorem zUQ{p:Int}(hp:Prime p):elx p 0=E0:=by rw[zFq hp (by omega)];rfl
section
variable {p:Int} (hp:Prime p) {N:Nat} (hN:N≤4) {R:Mx}{pv:Nat→Nat} (hR:Red p N R pv)
 include hp hN hR
theorem zSm{F:zY}(hw:∀w∈F.zO,Wd N w)(hl:F.zO.length≤1000)(hr:f_d p (rls p N F.zO)=jq R):
  ∃q,f_f F p E0 (J1 N [])=jq (elx p (xI N R.length pv).length,ims p N R pv,q):=by
 rcases Jbn N with h|h
 ·subst h
  refine⟨E0,?_⟩;unfold f_f;rw[zBd (x:=E0) (n:=0) rfl (by omega),bs,Jl,show((base 0 0:Nat):Int)+((0:Nat):Int)=0 from rfl,zH (by omega) (by omega),bs,show((0:Int)==0)=js from rfl,zJ];rw[show(xI 0 R.length pv).length=0 from rfl,zUQ hp];rfl
 ·exact⟨_,zP3 hp (by omega) hR h hw hl hr⟩
theorem zMM(k:Nat):Row p (xI N R.length pv).length (pim p N R pv (zX N k)):=zBx hp (by omega) hR (xW hp.pos.1)
theorem zSn(a:Nat)(ha:a<(xI N R.length pv).length):∃k,k<N∧pim p N R pv (zX N k)=zX (xI N R.length pv).length a:=⟨_,zCT ha,zLk hp (by omega) hR ha⟩
theorem zMN{F:zY}(hF:SFp F)(gD:zLs F)(hn:F.Gens=(N:Int))(dl:f_d p (rls p N F.zO)=jq R)(me:f_q p (rls p N F.zO)=jq R):
  (zNo F p 1=jq ([],3)∧zNq F p 1=jq ([],3))∨
  ∃n,zNo F p 1=jq (tbF p (xI N R.length pv).length N (fun k=>pim p N R pv (zX N k)) n,0)∧zNq F p 1=jq (tbF p (xI N R.length pv).length N (fun k=>pim p N R pv (zX N k)) n,0)∧(n:Int)=p ^ (xI N R.length pv).length∧n≤128:=by
 have h2:=hp.pos;have gC:=qS (D:=N) (N:=R.length) (pv:=pv);have hW:(xI N R.length pv).length≤4:=by omega
 have hl:F.zO.length≤1000:=hF.2.1;have hw:∀w∈F.zO,Wd N w:=fun w hm=>by
  obtain⟨i,hi,rfl⟩:=Gx hm;have:=gD.2.2 i hi;rw[J2,J4 hi,Kr,hn]at this;refine⟨this.1,fun a ha=>?_⟩;obtain⟨j,hj,rfl⟩:=Gx ha;have:=this.2 j hj
  rwa [at0,J2,J4 hj,Kr]at this
 obtain⟨q,hni⟩:=zSm hp hN hR hw hl dl;have aC:=zP0 hp (by omega) hR hw hl me;have hpi:zPD p=jq js:=by
  rcases zCd p with⟨e,_⟩|⟨_,e⟩
  ·exact e
  ·exact absurd hp e
 have gO:zLv p=jq js:=by
  rcases zDS p with⟨e,_⟩|⟨_,e⟩
  ·exact e
  ·exact absurd hp e
 have jb:zNm F=jq js:=by
  rcases zJJ hF with⟨e,_⟩|⟨_,e⟩
  ·exact e
  ·exact absurd gD e
 have hfs:zTw F=jq js:=by
  rcases zJK hF with⟨e,_⟩|⟨_,e⟩
  ·exact e
  ·exact absurd gD e
 have c1:zHE 1 0 6=jq js:=by decide
 have c2:zHw 1 0 6=jq js:=by decide
 have hE:SPr.mk [] [] []=E0:=rfl;have hP:=(zUP hp hW _ (J7 _));unfold zNo zNq;rw[jb,bs,hfs,bs,Jo,zK,zK,hpi,bs,gO,bs,Jo,zK,zK,c1,bs,c2,bs,Jo,zK,zK,hn,xJ (by omega),bs,bs]
 by_cases hb:p ^ (xI N R.length pv).length> 128
 ·left
  have k1:zC (zIL F p 1) ([],[],[],J1 N [],0)=jq (.inr ([],3)):=by
   rw[yP];unfold zIL;simp only
   rw[show decide ((0:Int)<1)=js from rfl,zJ,hE,hni,bs];simp only
   rw[zLq hp hW,bs,jw hb,zJ]
  have k2:zC (zIN F p 1) ([],[],[],J1 N [],0)=jq (.inr ([],3)):=by
   rw[yP];unfold zIN;simp only
   rw[show decide ((0:Int)<1)=js from rfl,zJ,hE,aC,bs];simp only
   rw[zLr hp hW,bs,jw hb,zJ]
  rw[k1,bs,k2,bs];exact⟨rfl,rfl⟩
 ·right
  have eh:p ^ (xI N R.length pv).length≤128:=by omega
  obtain⟨n,n1,n2,n3⟩:=zSl hp (W:=(xI N R.length pv).length) (by omega) eh (show N≤14 by omega) (im:=fun k=>pim p N R pv (zX N k)) (fun k _=>zMM hp hN hR k) (zSn hp hN hR);have bp:n≤128:=by omega
  have t1:=zSj hp (W:=(xI N R.length pv).length) (by omega) eh (show N≤14 by omega) (im:=fun k=>pim p N R pv (zX N k)) (fun k _=>zMM hp hN hR k) n1 n2 bp;have t2:=zSk hp (W:=(xI N R.length pv).length) (by omega) eh (show N≤14 by omega) (im:=fun k=>pim p N R pv (zX N k)) (fun k _=>zMM hp hN hR k) n1 n2 bp;refine⟨n,?_,?_,n3,bp⟩
  ·have k1:zC (zIL F p 1) ([],[],[],J1 N [],0)=jq (.inl ((elx p (xI N R.length pv).length).zA,(elx p (xI N R.length pv).length).yB,(elx p (xI N R.length pv).length).zD,ims p N R pv)):=by
    rw[yP];unfold zIL;simp only
    rw[show decide ((0:Int)<1)=js from rfl,zJ,hE,hni,bs];simp only
    rw[zLq hp hW,bs,ju hb,zK,zH (by omega) (by omega),bs];simp only
    rw[yP];simp only
    rw[show decide ((0:Int)+1<1)=jt from rfl,zK]
   rw[k1,bs];simp only
   rw[show SPr.mk (elx p (xI N R.length pv).length).zA (elx p (xI N R.length pv).length).yB (elx p (xI N R.length pv).length).zD=elx p (xI N R.length pv).length from rfl,ims,t1,bs]
  ·have k1:zC (zIN F p 1) ([],[],[],J1 N [],0)=jq (.inl ((elx p (xI N R.length pv).length).zA,(elx p (xI N R.length pv).length).yB,(elx p (xI N R.length pv).length).zD,ims p N R pv)):=by
    rw[yP];unfold zIN;simp only
    rw[show decide ((0:Int)<1)=js from rfl,zJ,hE,aC,bs];simp only
    rw[zLr hp hW,bs,ju hb,zK,zH (by omega) (by omega),bs];simp only
    rw[yP];simp only
    rw[show decide ((0:Int)+1<1)=jt from rfl,zK]
   rw[k1,bs];simp only
   rw[show SPr.mk (elx p (xI N R.length pv).length).zA (elx p (xI N R.length pv).length).yB (elx p (xI N R.length pv).length).zD=elx p (xI N R.length pv).length from rfl,ims,t2,bs]
end
end Go.Pl

namespace Go.Pl
open Go Go.Ab Go.Wk Go.Pc
def de(j k:Nat):Int:=if j=k then 1 else 0
def zA5(N:Nat)(w:List Int):List Int:=mkv N fun j=>zAm (de j) w
theorem zJL(j:Nat):∀w:List Int,-(w.length:Int)≤zAm (de j) w∧zAm (de j) w≤w.length
 | []=>by simp[zAm]
 |a::w=>by
  have:=zJL j w;simp only[zAm,Jx];have h:sg a*de j (ixa a)=0∨sg a*de j (ixa a)=1∨sg a*de j (ixa a)= -1:=by unfold sg de;split<;>split<;>simp
  omega
theorem zSo{f:Nat→Int}{a:Int}:zAm f [a]=sg a*f (ixa a):=by simp[zAm]
theorem zP7{a:Int}(h:a≠0):zWe a=jq (sg a):=by
 unfold zWe zYG zWd sg;rw[bs,bs,bne_self_eq_false,zK,bne_self_eq_false,zK]
 by_cases q:a<0
 ·rw[jw q,zJ,bs,if_pos q]
 ·rw[ju q,zK,jw (by omega),zJ,bs,if_neg q]
theorem zP8{N:Nat}{w:List Int}(hN:N≤4)(hw:WdI (N:Int) w)(hl:w.length≤1000):zWf (N:Int) w=jq (zA5 N w,0):=by
 have hc:zQd (N:Int) [w]=jq 0:=by
  unfold zQd zVS;rcases sM (N:Int) 0 6 with⟨e6,_⟩|⟨_,q6⟩
  ·rw[e6,bs,bs,Jo,zK]
   have hf:zTj (N:Int) w=jq js:=by
    rcases zIC (n:=(N:Int)) (w:=w) (by omega) hl with⟨e,_⟩|⟨_,r⟩
    ·exact e
    ·exact absurd hw r
   have k:zC (zH0 (N:Int) [w]) 0=jq (.inl ()):=by
    rw[yP];unfold zH0;rw[show decide ((0:Int)<(([w]:Mx).length:Int))=js from rfl,zJ,show ixO [w] 0=jq w from rfl,bs,hf,bs,Jo,zK,zH (by omega) (by omega),bs];simp only
    rw[yP];rw[show decide ((0:Int)+1<(([w]:Mx).length:Int))=jt from rfl,zK]
   rw[k,bs]
  ·exact absurd (by omega) q6
 unfold zWf;rw[hc,bs,bne_self_eq_false,zK,xJ (by omega),bs];have key:=zU (body:=zLP w) (r:=zA5 N w) (fun i=>(zA5 N (w.take i),(i:Int))) w.length (fun i hi=>by
  obtain⟨a1,a2,a3⟩:=hw.2 i hi;have hx:ixa (at0 w i)<N:=by unfold ixa;omega
  have hb:=zJL (ixa (at0 w i)) (w.take i);have gE:(w.take i).length≤1000:=by simp;omega
  have hsg:sg (at0 w i)=1∨sg (at0 w i)= -1:=by unfold sg;split<;>simp
  unfold zLP zTn;simp only
  rw[xH hi,zJ,xV hi,bs,zH (by omega) (by omega),bs,bs,zH (by omega) (by omega),bs,show max (at0 w i) (0-at0 w i)-1=((ixa (at0 w i):Nat):Int)from by unfold ixa;omega];rw[xV (by rw[zA5,yG];exact hx),bs,zP7 a1,bs,zA5,yD hx,zH (by omega) (by omega),bs,bs,zH (by omega) (by omega),bs,J9,zAs];rw[show(mkv N fun j=>if j=ixa (at0 w i)then zAm (de (ixa (at0 w i))) (w.take i)+sg (at0 w i)else zAm (de j) (w.take i))=zA5 N (w.take (i+1))from by
   refine yV fun j hj=>?_
   rw[show w.take (i+1)=w.take i++[at0 w i]from by rw[Kw,at0,J2,J4 hi];rfl,zEM,zSo]
   by_cases e:j=ixa (at0 w i)
   ·rw[if_pos e,e,de,if_pos rfl,Kf]
   ·rw[if_neg e,de,if_neg e,L3,Kd]]
  rfl) (by
  unfold zLP;simp only
  rw[wW,zK,Jg (J7 _)])
 rw[show zA5 N (w.take 0)=J1 N 0 from by rw[Kv,qO];rfl,show((0:Nat):Int)=0 from rfl]at key
 rw[key,bs]
theorem zMO{F:zY}{N:Nat}(hF:SFp F)(gD:zLs F)(hn:F.Gens=(N:Int))(h1:1≤N):zWg F=jq (⟨(N:Int),F.zO.map (zA5 N)⟩,0):=by
 have hN:N≤4:=by have:=gD.1.2;omega
 have jb:zNm F=jq js:=by
  rcases zJJ hF with⟨e,_⟩|⟨_,e⟩
  ·exact e
  ·exact absurd gD e
 have hl:=hF.2.1;unfold zWg;rw[jb,bs,Jo,zK,hn,zBw (by omega),zK];have key:=zU (body:=zLQ F) (r:=F.zO.map (zA5 N)) (fun i=>((F.zO.take i).map (zA5 N),(i:Int))) F.zO.length (fun i hi=>by
  have hw:=gD.2.2 i hi;have iP:(F.zO.getD i []).length≤1000:=hF.2.2 _ (by rw[J2,J4 hi];exact Jt hi);rw[hn]at hw;unfold zLQ;simp only
  rw[xH hi,zJ,yO [] hi,bs,hn,zP8 hN hw iP,bs,zT (by simp;omega),bs,zH (by omega) (by omega),bs];rw[show(F.zO.take i).map (zA5 N)++[zA5 N (F.zO.getD i [])]=(F.zO.take (i+1)).map (zA5 N)from by rw[Kw,J4 hi,L7,J2,J4 hi];rfl]
  rfl) (by
  unfold zLQ;simp only
  rw[wW,zK,Jg (J7 _)])
 rw[Kv,show((0:Nat):Int)=0 from rfl,Ja9]at key;rw[key,bs]
end Go.Pl

namespace Go.Pl
open Go Go.Ab Go.Wk Go.Pc
theorem zCY{A:Mx}(hA:A.length≤1000)(h:∀r∈A,r.length≤1000):zWc A A=jq js:=by
 unfold zWc;rw[bne_self_eq_false,zK];rcases chk (body:=zLO A A) A.length 0 (Jw _) (fun _=>True) (fun _=>jt) (fun i _ hi _=>by
   have hm:A.getD i []∈A:=by rw[J2,J4 hi];exact Jt hi
   have:=h _ hm;unfold zLO;rw[xH hi,zJ,yO [] hi,bs,bs,zLi (by omega),bs,beq_self_eq_true,Jo,zK,zH (by omega) (by omega),bs];exact .inl ⟨rfl,trivial⟩) (by
   unfold zLO;rw[wW,zK])with⟨e,_⟩|⟨_,_,_,_,e⟩
 ·rw[show((0:Nat):Int)=0 from rfl]at e
  rw[e,bs]
 ·exact absurd trivial e
theorem zMP{x p:Int}(hp:0<p):(x.tmod p+p).tmod p=x%p∧ -p<x.tmod p∧x.tmod p<p:=by have a:=Jbo x hp;have b:=Jak x hp;refine⟨?_,b,a⟩;rw[Gb (by omega),Un,Int.tmod_def,Int.sub_mul_emod_self_left]
section
variable {p:Int} (hp:Prime p) {N:Nat} (hN:N≤4)
 include hp hN
theorem zSp{w:List Int}(hw:WdI (N:Int) w):(zA5 N w).map (· %p)=evw p N (gl N (zX N)) w:=by
 have h2:=hp.pos;have key:∀(j:Nat),j<N→ ∀w:List Int,(∀a∈w,ixa a<N)→zAm (de j) w=zAm (fun k=>at0 ((gl N (zX N)).getD k []) j) w:=fun j hj w=>by
  induction w with
  |nil=>intro _;rfl
  |cons a w ih=>
   intro h;simp only[zAm];rw[ih fun b hb=>h b (by simp[hb]),zJC hp (by omega) (h a (by simp)),qQ hp (by omega) hj];rfl
 have hl:∀a∈w,ixa a<N:=fun a ha=>by obtain⟨j,hj,rfl⟩:=Gx ha;have:=hw.2 j hj;rw[at0,J2,J4 hj,Kr]at this;obtain⟨a1,a2,a3⟩:=this;unfold ixa;omega
 unfold zA5 evw mkv;rw[Jau];exact U7 fun j hj=>by rw[Function.comp,key j (K5.1 hj) w hl]
theorem zUR{F:zY}{c:Int}{w:List Int}(hw:WdI (N:Int) w)(_hl:w.length≤1000){rows:Mx}{i:Nat}(hi:i<rows.length)(he:rows.getD i []=zA5 N w){acc:Mx}:
  zC (zQj (F,p,c) (⟨(N:Int),rows⟩,0) (acc,(i:Int))) ([],0)=jq (evw p N (gl N (zX N)) w):=by
 have h2:=hp.pos;rw[←zSp hp hN hw];have mE:(zA5 N w).length=N:=yG _ _;have key:=zU (body:=zQj (F,p,c) (⟨(N:Int),rows⟩,0) (acc,(i:Int))) (r:=(zA5 N w).map (· %p)) (fun k=>(((zA5 N w).take k).map (· %p),(k:Int))) N (fun k hk=>by
  have hb:=zJL k w;obtain⟨t1,t2,t3⟩:=zMP (x:=at0 (zA5 N w) k) (p:=p) (by omega);unfold zQj;simp only
  rw[yO [] hi,bs,he,mE,xH hk,zJ,bs,xV (by rw[mE];exact hk),bs,xN,if_neg (by omega),bs,zH (by omega) (by omega),bs,xN,if_neg (by omega),bs,t1,zT (by simp;omega),bs,zH (by omega) (by omega),bs];rw[show((zA5 N w).take k).map (· %p)++[at0 (zA5 N w) k%p]=((zA5 N w).take (k+1)).map (· %p)from by rw[Kw,at0,J2,J4 (by rw[mE];exact hk),L7];rfl]
  rfl) (by
  unfold zQj;simp only
  rw[yO [] hi,bs,he,mE,wW,zK,Jg (by rw[mE];omega)])
 rw[Kv,Ja9,show((0:Nat):Int)=0 from rfl]at key;exact key
theorem zSq{F:zY}{c:Int}(hF:SFp F)(gD:zLs F)(hn:F.Gens=(N:Int)):zC (zQk (F,p,c) (⟨(N:Int),F.zO.map (zA5 N)⟩,0)) ([],0)=jq (rls p N F.zO):=by
 have hl:=hF.2.1;have key:=zU (body:=zQk (F,p,c) (⟨(N:Int),F.zO.map (zA5 N)⟩,0)) (r:=rls p N F.zO) (fun i=>(rls p N (F.zO.take i),(i:Int))) F.zO.length (fun i hi=>by
  have hw:=gD.2.2 i hi;rw[hn]at hw;have iP:(F.zO.getD i []).length≤1000:=hF.2.2 _ (by rw[J2,J4 hi];exact Jt hi);unfold zQk;simp only
  rw[Jj,xH hi,zJ,zUR hp hN hw iP (rows:=F.zO.map (zA5 N)) (i:=i) (by simpa using hi) (by rw[J2,J2,Jp,J4 hi];rfl),bs,zT (by simp[rls];omega),bs,zH (by omega) (by omega),bs]
  rw[show rls p N (F.zO.take i)++[evw p N (gl N (zX N)) (F.zO.getD i [])]=rls p N (F.zO.take (i+1))from by unfold rls;rw[Kw,J4 hi,L7,J2,J4 hi];rfl]
  rfl) (by
  unfold zQk;simp only
  rw[Jj,wW,zK,Jg (J7 _)])
 exact key
 omit hN in
theorem zUS{F:zY}{c:Int}{d:Nat}(hd:d≤4):zC (zQl (F,p,c)) (1,(d:Int))=jq (p ^ d):=by
  have h2:=hp.pos;have key:=zU (body:=zQl (F,p,c)) (r:=p ^ d) (fun i=>(p ^ i,((d-i:Nat):Int))) d (fun i hi=>by
    have b:=zUP hp hd (i+1) hi;rw[Lo]at b;unfold zQl;simp only
    rw[jw (by omega),zJ,zH (by omega) (by omega),bs,zH (by omega) (by omega),bs,←Lo,show((d-i:Nat):Int)-1=((d-(i+1):Nat):Int)from by omega]) (by
    unfold zQl;simp only
    rw[ju (by omega),zK])
  rw[Uv,Nat.sub_zero]at key;exact key
end
end Go.Pl

namespace Go.Pl
open Go Go.Ab Go.Wk Go.Pc
theorem zLt{F:zY}{p:Int}(hF:SFp F)(h:¬zLs F∨ ¬Prime p):∃k:Int,k≠0∧zNo F p 1=jq ([],k)∧zNq F p 1=jq ([],k):=by
 unfold zNo zNq;rcases zJJ hF with⟨e,q⟩|⟨e,q⟩
 ·rcases zJK hF with⟨e',_⟩|⟨_,q'⟩
  ·rcases zCd p with⟨f,r⟩|⟨f,r⟩
   ·exact absurd q (h.elim id fun h=>absurd r h)
   ·rcases zDS p with⟨f',r'⟩|⟨f',_⟩
    ·exact absurd r' r
    ·refine⟨2,by omega,?_,?_⟩
     ·rw[e,bs,Jo,zK,f,bs,K2,zJ]
     ·rw[e',bs,Jo,zK,f',bs,K2,zJ]
  ·exact absurd q q'
 ·rcases zJK hF with⟨_,q'⟩|⟨e',_⟩
  ·exact absurd q' q
  ·refine⟨1,by omega,?_,?_⟩
   ·rw[e,bs,K2,zJ]
   ·rw[e',bs,K2,zJ]
theorem zMQ{x0:List Int}{b:Bool}{F:zY}{p c:Int}(hb:zVy x0=jq b)(hd:zQc x0=jq (F,p,c))(hF:SFp F):f_t x0=jq js:=by
 unfold f_t;rw[hb,bs];cases b
 ·rw[zK,hd,bs]
  simp only
  by_cases hv:zLs F∧Prime p
  ·obtain⟨gD,hp⟩:=hv
   have h2:=hp.pos;obtain⟨N,hn⟩:∃N:Nat,F.Gens=(N:Int):=⟨F.Gens.toNat,by have:=gD.1.1;omega⟩;have hN:N≤4:=by have:=gD.1.2;omega
   have hl:=hF.2.1;obtain⟨R,pv,me,dl,hR,_⟩:=zA4 hp (n:=N) (rows:=rls p N F.zO) (by omega) (by simp[rls];omega) fun i hi=>zOw hp (by omega) hi
   have gC:=qS (D:=N) (N:=R.length) (pv:=pv);rcases zMN hp hN hR hF gD hn dl me with⟨e1,e2⟩|⟨n,e1,e2,e3,e4⟩
   ·rw[e1,bs,e2,bs]
    simp only
    rw[bne_self_eq_false,zK,zCY (by simp) (fun r hr=>by simp at hr),bs,Jo,zK,show((3:Int) != 0)=js from rfl,zJ]
   ·rw[e1,bs,e2,bs]
    simp only
    rw[bne_self_eq_false,zK,zCY (by rw[tbF,yK];omega) (fun r hr=>by obtain⟨k,_,rfl⟩:=Jh.1 hr;rw[yK];omega),bs,Jo,zK,zK,hn]
    by_cases h0:N=0
    ·subst h0
     rw[show(((0:Nat):Int)==0)=js from rfl,zJ]
    ·rw[zBw (by omega),zK]
     by_cases h8:F.zO.length≤8
     ·rw[ju (by omega),zK,zMO hF gD hn (by omega),bs,zSq hp hN hF gD hn,bs]
      have dv:zWh (zN.mk p (N:Int) (rls p N F.zO))=jq (zN.mk p (N:Int) R,0):=by
       unfold zWh zY2 zY1;rcases zPj (u:=zN.mk p (N:Int) (rls p N F.zO))with⟨e,_⟩|⟨_,q⟩
       ·rw[e,bs,Jo,zK]
        simp only
        rw[dl,bs,bs,bs]
       ·exact absurd ⟨hp,N,by omega,rfl,by simpa[rls]using h8,fun i hi=>zOw hp (by omega) hi⟩ q
      rw[dv,bs];simp only
      rw[zH (by omega) (by omega),bs,show((0:Int)+0 != 0)=jt from rfl,zK,tbF,yK,zBw (by omega),zK];have hc:=zPv hR;rw[zH (by omega) (by omega),bs,show(N:Int)-(R.length:Int)=(((xI N R.length pv).length:Nat):Int)from by omega,zUS hp (by omega),bs,show ixO (gl N fun k=>gl n fun j=>zFN p (xI N R.length pv).length N (fun k=>pim p N R pv (zX N k)) j k) 0=jq (gl n fun j=>zFN p (xI N R.length pv).length N (fun k=>pim p N R pv (zX N k)) j 0)from uD (i:=0) (by omega),bs,yK,e3,beq_self_eq_true]
     ·rw[jw (by omega),zJ]
  ·obtain⟨k,k0,e1,e2⟩:=zLt hF (p:=p) (by
    by_cases q:zLs F
    ·exact .inr fun r=>hv ⟨q,r⟩
    ·exact .inl q)
   rw[e1,bs,e2,bs];simp only
   rw[bne_self_eq_false,zK,zCY (by simp) (fun r hr=>by simp at hr),bs,Jo,zK,zE0 k0,zJ]
 ·rw[zJ]
end Go.Pl

namespace Go.Pl
open Go Go.Ab Go.Wk Go.Pc
def Dw(b:Nat)(w:List Int):Prop:=w.length≤b∧ ∀a∈w,-100≤a∧a≤100
theorem Dw.snoc{b:Nat}{w:List Int}{a:Int}(h:Dw b w)(h1:-100≤a∧a≤100):Dw (b+1) (w++[a]):=⟨by have:=h.1;simp;omega,fun c hc=>by
 rcases K4.1 hc with q|q
 ·exact h.2 c q
 ·simp only[List.mem_singleton]at q;rw[q];exact h1⟩
theorem Dw.app{b c:Nat}{u v:List Int}(h:Dw b u)(k:Dw c v):Dw (b+c) (u++v):=⟨by have:=h.1;have:=k.1;simp;omega,fun a ha=>by
 rcases K4.1 ha with q|q
 ·exact h.2 a q
 ·exact k.2 a q⟩
theorem zDx{b:Nat}{w:List Int}(h:Dw b w)(hb:b≤1000):Ans (zNk w) (Dw b):=by
 have hl:=h.1;unfold zNk;refine .rg (by omega) (.bd (P:=Dw b) (.lp (fun i s=>s.2=(w.length:Int)-1-i∧i≤w.length∧Dw i s.1) w.length ⟨by simp only;omega,by omega,by simp,fun a ha=>by simp at ha⟩ fun i s hi hs=>?_) fun r hr=>.rt hr);obtain⟨s1,s2,s3⟩:=hs;unfold zTd;refine .cd (fun hc=>?_) fun _=>.rt ⟨by have:=s3.1;omega,s3.2⟩
 simp only[decide_eq_true_eq]at hc;obtain⟨k,hk⟩:∃k:Nat,s.2=(k:Int):=⟨s.2.toNat,by omega⟩;have hkl:k<w.length:=by omega
 have hm:=h.2 _ (Jt hkl);rw[hk,uR hkl,bs];refine .rg (by omega) ?_;rw[zT (by have:=s3.1;simp;omega),bs];exact .rg (by omega) (.rt ⟨by omega,by simp only;omega,by omega,s3.snoc (by omega)⟩)
theorem zJM{a k:Int}(ha:-100≤a∧a≤100)(hk:k≤100):Ans (zQb a k) (Dw 100):=by
 unfold zQb;refine .bd (P:=Dw 100) (.lp (fun i s=>s.2=(i:Int)∧i≤k.toNat∧Dw i s.1) k.toNat ⟨rfl,by omega,by simp,fun a ha=>by simp at ha⟩ fun i s hi hs=>?_) fun r hr=>.rt hr
 obtain⟨s1,s2,s3⟩:=hs;unfold zTe;refine .cd (fun hc=>?_) fun _=>.rt ⟨by have:=s3.1;omega,s3.2⟩
 simp only[decide_eq_true_eq]at hc;rw[zT (by have:=s3.1;simp;omega),bs];exact .rg (by omega) (.rt ⟨by omega,by simp only;omega,by omega,s3.snoc ha⟩)
theorem zCm{s:zM}(hs:Src s){g n:Int}(hg:g≤10)(hn:n≤100):Ans (zNl s g n) fun r=>Dw 100 r.1∧Src r.2:=by
 unfold zNl;refine .bd (P:=fun r=>Src ⟨r.1,r.2.1,r.2.2.1⟩∧Dw 100 r.2.2.2) (.lp (fun i s=>s.2.2.2.2=(i:Int)∧i≤n.toNat∧Src ⟨s.1,s.2.1,s.2.2.1⟩∧Dw i s.2.2.2.1) n.toNat ⟨rfl,by omega,hs,by simp,fun a ha=>by simp at ha⟩ fun i s hi hs=>?_) fun r hr=>.rt ⟨hr.2,hr.1⟩
 obtain⟨s1,s2,s3,s4⟩:=hs;have s5:=s4.1;unfold zTf;refine .cd (fun hc=>.cd (fun hg0=>?_) fun _=>.rt ⟨s3,Ko s4.1 (by omega),s4.2⟩) fun _=>.rt ⟨s3,Ko s4.1 (by omega),s4.2⟩
 simp only[decide_eq_true_eq]at hc hg0;refine .bd (wI s3 (by omega)) fun r hr=>.rg (by omega) (.bd (wI hr.1 (by omega)) fun u hu=>.cd (fun _=>.rg (by omega) ?_) fun _=>?_)
 ·rw[zT (by simp;omega),bs]
  exact .rg (by omega) (.rt ⟨by omega,by simp only;omega,by omega,hu.1,s4.snoc (by omega)⟩)
 ·rw[zT (by simp;omega),bs]
  exact .rg (by omega) (.rt ⟨by omega,by simp only;omega,by omega,hu.1,s4.snoc (by omega)⟩)
theorem zHv{u v:List Int}(hu:Dw 100 u)(hv:Dw 100 v):Ans (zTg u v) (Dw 400):=by
 unfold zTg;refine .bd (zDx hu (by omega)) fun a ha=>.bd (zDx hv (by omega)) fun b hb=>?_
 have a1:=ha.1;have b1:=hb.1;have u1:=hu.1;have v1:=hv.1;rw[zT (by omega),bs,zT (by simp;omega),bs,zT (by simp;omega),bs];exact .rt (((ha.app hb).app hu).app hv)
end Go.Pl

namespace Go.Pl
open Go Go.Ab Go.Wk Go.Pc
def RL(n:Nat)(rs:List (List Int)):Prop:=rs.length≤n∧ ∀w∈rs,w.length≤900
theorem RL.nil:RL 0 []:=⟨by simp,fun w hw=>by simp at hw⟩
theorem RL.snoc{n:Nat}{rs:List (List Int)}{w:List Int}(h:RL n rs)(hw:w.length≤900):RL (n+1) (rs++[w]):=⟨by have:=h.1;simp;omega,fun c hc=>by
 rcases K4.1 hc with q|q
 ·exact h.2 c q
 ·simp only[List.mem_singleton]at q;rw[q];exact hw⟩
theorem Dw.mono{b c:Nat}{w:List Int}(h:Dw b w)(k:b≤c):Dw c w:=⟨Ko h.1 k,h.2⟩
theorem RL.mono{b c:Nat}{w:List (List Int)}(h:RL b w)(k:b≤c):RL c w:=⟨Ko h.1 k,h.2⟩
theorem zLu{v:List Int}(hl:v.length≤14)(hv:∀j,j<v.length→0≤at0 v j∧at0 v j≤6):Ans (f_J v) (Dw 100):=by
 unfold f_J;refine .bd (P:=Dw 100) (.lp (fun i s=>s.2=(i:Int)∧i≤v.length∧Dw (6*i) s.1) v.length ⟨rfl,by omega,by simp,fun a ha=>by simp at ha⟩ fun i s hi hs=>?_) fun r hr=>.rt hr
 obtain⟨s1,s2,s3⟩:=hs;unfold zSZ;refine .cd (fun hc=>?_) fun _=>.rt (s3.mono (by omega))
 simp only[decide_eq_true_eq]at hc;have hb:=hv i (by omega);refine .bd (P:=Dw (6*(i+1))) (.lp (fun k t=>t.2=(k:Int)∧k≤(at0 v i).toNat∧Dw (6*i+k) t.1) (at0 v i).toNat ⟨rfl,by omega,s3⟩ fun k t hk ht=>?_) fun r hr=>.rg (by omega) (.rt ⟨by omega,by simp only;omega,by omega,hr⟩)
 obtain⟨t1,t2,t3⟩:=ht;unfold zVD;rw[s1,xV (by omega),bs];refine .cd (fun hd=>?_) fun _=>.rt (t3.mono (by omega))
 simp only[decide_eq_true_eq]at hd;refine .rg (by omega) ?_;rw[zT (by have:=t3.1;simp;omega),bs];exact .rg (by omega) (.rt ⟨by omega,by simp only;omega,by omega,t3.snoc (by omega)⟩)
theorem zYs{x:SPr}(hx:zIr x)(h4:x.zA.length≤4):Ans (f_K x) (RL 100):=by
 have hP:=hx.toPres;have h6:=hP.os.1;unfold f_K;refine .bd (P:=RL 4) (.lp (fun i s=>s.2=(i:Int)∧i≤x.zA.length∧RL i s.1) x.zA.length ⟨rfl,by omega,RL.nil⟩ fun i s hi hs=>?_) fun r12 h12=>.bd (P:=RL 100) (.lp (fun i s=>s.2=(i:Int)∧i≤x.zA.length∧RL (4+4*i) s.1) x.zA.length ⟨rfl,by omega,h12⟩ fun i s hi hs=>?_) fun r hr=>.rt hr
 ·obtain⟨s1,s2,s3⟩:=hs
  unfold zYA;refine .cd (fun hc=>?_) fun _=>.rt (s3.mono (by omega))
  simp only[decide_eq_true_eq]at hc;have ta:i<x.zA.length:=by omega
  have ho:=(hP.os.2 i ta).pos;have he:=zIw hP.os (hP.tl i ta).1;refine .bd (P:=Dw 7) (.lp (fun k t=>t.2=(k:Int)∧k≤(at0 x.zA i).toNat∧Dw k t.1) (at0 x.zA i).toNat ⟨rfl,by omega,by simp,fun a ha=>by simp at ha⟩ fun k t hk ht=>?_) fun r5 h5=>?_
  ·obtain⟨t1,t2,t3⟩:=ht
   unfold zY9;rw[s1,xV ta,bs];refine .cd (fun hd=>?_) fun _=>.rt (t3.mono (by omega))
   simp only[decide_eq_true_eq]at hd;refine .rg (by omega) ?_;rw[zT (by have:=t3.1;simp;omega),bs];exact .rg (by omega) (.rt ⟨by omega,by simp only;omega,by omega,t3.snoc (by omega)⟩)
  ·rw[s1,yO [] (by have:=hP.pl;omega),bs]
   refine .bd (zLu (by omega) fun j hj=>he.2 j (by omega)) fun r7 h7=>.bd (zDx h7 (by omega)) fun r8 h8=>?_
   have a5:=h5.1;have a8:=h8.1;rw[zT (by omega),bs,zT (by have:=s3.1;simp;omega),bs];exact .rg (by omega) (.rt ⟨by omega,by simp only;omega,by omega,s3.snoc (by simp;omega)⟩)
 ·obtain⟨s1,s2,s3⟩:=hs
  unfold zYC;refine .cd (fun hc=>?_) fun _=>.rt (s3.mono (by omega))
  simp only[decide_eq_true_eq]at hc;have ta:i<x.zA.length:=by omega
  refine .rg (by omega) (.bd (P:=RL (4+4*(i+1))) (.lp (fun k t=>t.2=((i+1+k:Nat):Int)∧i+1+k≤x.zA.length∧RL (4+4*i+k) t.1) 4 ⟨by simp only;omega,by omega,s3⟩ fun k t hk ht=>?_) fun r hr=>.rg (by omega) (.rt ⟨by omega,by simp only;omega,by omega,hr⟩));obtain⟨t1,t2,t3⟩:=ht;unfold zYB;refine .cd (fun hd=>?_) fun _=>.rt (t3.mono (by omega))
  simp only[decide_eq_true_eq]at hd;have ca:=(hP.tl i ta).2;rw[s1];refine .rg (by omega) (.rg (by omega) (.rg (by omega) (.rg (by omega) ?_)));rw[yO [] (by have:=hP.cl;omega),bs];refine .rg (by omega) (.rg (by omega) ?_);have gK:=zYi hP ta;rw[t1,show((i+1+k:Nat):Int)-(i:Int)-1=(k:Int)from by omega,yO [] (by omega),bs];have he:=zIw hP.os (ca.2 k (by omega));refine .bd (zLu (by omega) fun j hj=>he.2 j (by omega)) fun r7 h7=>.bd (zDx h7 (by omega)) fun r8 h8=>?_
  have a8:=h8.1;rw[zT (by simp;omega),bs,zT (by have:=t3.1;simp;omega),bs];exact .rg (by omega) (.rt ⟨by omega,by simp only;omega,by omega,t3.snoc (by simp;omega)⟩)
end Go.Pl

namespace Go.Pl
open Go Go.Ab Go.Wk Go.Pc
structure DF (F:zY):Prop where
 g:-10≤F.Gens∧F.Gens≤10
 r:RL 100 F.zO
theorem DF.s{F:zY}(h:DF F)(k:F.zO.length≤1000):SFp F:=⟨by have:=h.g;omega,k,fun w hw=>Ko (h.r.2 w hw) (by omega)⟩
theorem zUT{x:SPr}(hx:zIr x):Ans (zVP x) fun r=>DF r.1:=by
 have h6:=hx.toPres.os.1;unfold zVP;rcases qG (x:=x) (by omega)with⟨e,_⟩|⟨_,e⟩
 ·rw[e,bs]
  refine .cd (fun h=>by cases h) fun _=>.cd (fun _=>.rt ⟨by simp,RL.nil.mono (by omega)⟩) fun h=>?_
  simp only[decide_eq_false_iff_not]at h;exact .bd (zYs hx (by omega)) fun r hr=>.rt ⟨by simp only;omega,hr⟩
 ·exact absurd hx e
theorem zYt{s:zM}(hs:Src s){g K:Int}(hg:g≤10)(hK:K≤10):Ans (zC (zVQ g) (s.code,s.at_,s.seed,[],K)) fun r=>Src ⟨r.1,r.2.1,r.2.2.1⟩∧RL 50 r.2.2.2:=by
 refine .lp (fun i t=>t.2.2.2.2=K-i∧i≤K.toNat∧Src ⟨t.1,t.2.1,t.2.2.1⟩∧RL i t.2.2.2.1) K.toNat ⟨by simp,by omega,hs,RL.nil⟩ fun i t hi ht=>?_
 obtain⟨t1,t2,t3,t4⟩:=ht;have t5:=t4.1;unfold zVQ;refine .cd (fun hc=>?_) fun _=>.rt ⟨t3,t4.mono (by omega)⟩
 simp only[decide_eq_true_eq]at hc;refine .bd (wI t3 (by omega)) fun a ha=>.rg (by omega) (.bd (zCm ha.1 hg (by omega)) fun w hw=>.bd (wI hw.2 (by omega)) fun b hb=>.cd (fun _=>?_) fun _=>?_)
 ·refine .bd (wI hb.1 (by omega)) fun c ci=>.rg (by omega) (.bd (zCm ci.1 hg (by omega)) fun u hu=>.bd (zHv hw.1 hu.1) fun v hv=>?_)
  rw[zT (by simp;omega),bs];exact .rg (by omega) (.rt ⟨by omega,by simp only;omega,by omega,hu.2,t4.snoc (by have:=hv.1;omega)⟩)
 ·rw[zT (by simp;omega),bs]
  exact .rg (by omega) (.rt ⟨by omega,by simp only;omega,by omega,hb.1,t4.snoc (by have:=hw.1.1;omega)⟩)
theorem zYu{s:zM}(hs:Src s){g K:Int}(hg:g≤10)(hK:K≤10):Ans (zC (zVR g) (s.code,s.at_,s.seed,[],K)) fun r=>Src ⟨r.1,r.2.1,r.2.2.1⟩∧RL 50 r.2.2.2:=by
 refine .lp (fun i t=>t.2.2.2.2=K-i∧i≤K.toNat∧Src ⟨t.1,t.2.1,t.2.2.1⟩∧RL i t.2.2.2.1) K.toNat ⟨by simp,by omega,hs,RL.nil⟩ fun i t hi ht=>?_
 obtain⟨t1,t2,t3,t4⟩:=ht;have t5:=t4.1;unfold zVR;refine .cd (fun hc=>?_) fun _=>.rt ⟨t3,t4.mono (by omega)⟩
 simp only[decide_eq_true_eq]at hc;refine .bd (wI t3 (by omega)) fun a ha=>.rg (by omega) (.bd (zCm ha.1 hg (by omega)) fun w hw=>.bd (wI hw.2 (by omega)) fun b hb=>.cd (fun _=>?_) fun _=>?_)
 ·refine .bd (wI hb.1 (by omega)) fun c ci=>.rg (by omega) (.bd (zCm ci.1 hg (by omega)) fun u hu=>.bd (zHv hw.1 hu.1) fun v hv=>?_)
  rw[zT (by simp;omega),bs];exact .rg (by omega) (.rt ⟨by omega,by simp only;omega,by omega,hu.2,t4.snoc (by have:=hv.1;omega)⟩)
 ·rw[zT (by simp;omega),bs]
  exact .rg (by omega) (.rt ⟨by omega,by simp only;omega,by omega,hb.1,t4.snoc (by have:=hw.1.1;omega)⟩)
theorem zSr{s:zM}(hs:Src s):Ans (f_F s) fun r=>DF r.1∧Src r.2:=by
 unfold f_F;refine .bd (wI hs (by omega)) fun r1 h1=>.cd (fun _=>?_) fun _=>.cd (fun _=>?_) fun _=>.cd (fun _=>?_) fun _=>?_
 ·refine .bd (zRT h1.1) fun r2 h2=>.bd (zUT h2.1) fun r3 h3=>.cd (fun _=>.rt ⟨h3,h2.2⟩) fun _=>?_
  refine .bd (wI h2.2 (by omega)) fun r4 h4=>.rg (by omega) (.bd (wI h4.1 (by omega)) fun r6 h6=>.bd (zYt h6.1 (by omega) (by omega)) fun r hr=>.rt ⟨⟨by simp only;omega,hr.2.mono (by omega)⟩,hr.1⟩)
 ·refine .bd (wI h1.1 (by omega)) fun a ha=>.rg (by omega) (.bd (wI ha.1 (by omega)) fun b hb=>.rg (by omega) (.bd (wI hb.1 (by omega)) fun c hc=>.rg (by omega) ?_))
  refine .bd (P:=Dw 100) (.lp (fun i t=>t.2=(i:Int)∧i≤(2+c.1).toNat∧Dw (2*i) t.1) (2+c.1).toNat ⟨rfl,by omega,by simp,fun a ha=>by simp at ha⟩ fun i t hi ht=>?_) fun w hw=>.bd (zJM (by omega) (by omega)) fun u hu=>.bd (zJM (by omega) (by omega)) fun v hv=>.rt ⟨⟨by simp,?_⟩,hc.1⟩
  ·obtain⟨t1,t2,t3⟩:=ht
   unfold zYD;refine .cd (fun hd=>?_) fun _=>.rt (t3.mono (by omega))
   simp only[decide_eq_true_eq]at hd;rw[zT (by have:=t3.1;simp;omega),bs];refine .rg (by omega) (.rt ⟨by omega,by simp only;omega,by omega,?_⟩);exact t3.app (c:=2) ⟨by simp,fun a ha=>by simp at ha;omega⟩
  ·refine⟨by simp,fun x hx=>?_⟩
   simp only[Js,Jag,or_false]at hx;have a1:=hu.1;have a2:=hv.1;have a3:=hw.1;rcases hx with q|q|q<;>rw[q]<;>omega
 ·refine .bd (wI h1.1 (by omega)) fun a ha=>.rg (by omega) (.bd (zJM (by omega) (by omega)) fun u hu=>.rt ⟨⟨by simp,by simp,fun x hx=>?_⟩,ha.1⟩)
  simp only[List.mem_singleton]at hx;have:=hu.1;rw[hx];omega
 ·refine .bd (wI h1.1 (by omega)) fun a ha=>.rg (by omega) (.bd (wI ha.1 (by omega)) fun b hb=>.bd (zYu hb.1 (by omega) (by omega)) fun r hr=>.rt ⟨⟨by simp only;omega,hr.2.mono (by omega)⟩,hr.1⟩)
theorem zUU{s:zM}(hs:Src s):Ans (zTi s) fun r=>SFp r.1∧Src r.2:=by
 unfold zTi;refine .bd (zSr hs) fun r1 h1=>.bd (wI h1.2 (by omega)) fun r2 h2=>?_
 have hg:=h1.1.g;have hr:=h1.1.r;have hl:=hr.1;refine .cd (fun _=>?_) fun _=>.cd (fun _=>?_) fun _=>.cd (fun _=>?_) fun _=>.rt ⟨h1.1.s (by omega),h2.1⟩
 ·refine .bd (zAv h2.1 (by simp) (by simp)) fun r3 h3=>.rt ⟨⟨?_,by simp only;omega,fun w hw=>Ko (hr.2 w hw) (by omega)⟩,h3.1⟩
  have:=h3.2;simp only[Js,Jag,or_false]at this;simp only
  omega
 ·refine .rg (by omega) (.rg (by omega) (.rg (by omega) (.bd (zAv h2.1 (by simp) (by simp)) fun r7 h7=>?_)))
  rw[zT (by simp;omega),bs];refine .rt ⟨⟨by simp only;omega,by simp;omega,fun w hw=>?_⟩,h7.1⟩;have:=(hr.snoc (w:=[r7.1]) (by simp)).2 w hw;omega
 ·refine .bd (P:=fun r=>RL 200 r) (.lp (fun i t=>RL (100+i) t∧i≤t.length) 13 ⟨hr,by omega⟩ fun i t hi ht=>?_) fun r hr=>.rt ⟨⟨by simp only;omega,by have:=hr.1;simp only;omega,fun w hw=>Ko (hr.2 w hw) (by omega)⟩,h2.1⟩
  obtain⟨t1,t2⟩:=ht;unfold zTh;refine .cd (fun hc=>?_) fun _=>.rt (t1.mono (by omega))
  simp only[decide_eq_true_eq]at hc;rw[zT (by simp;omega),bs];exact .rt ⟨by omega,t1.snoc (by simp),by simp;omega⟩
theorem zSs{c:List Int}(hb:∀i(h:i<c.length),0≤c[i]∧c[i]≤255)(hl:c.length≤68719476736):Ans (zQc c) fun r=>SFp r.1:=by
 unfold zQc;refine .bd (zU5 hb hl) fun r1 h1=>.bd (zUU h1) fun r2 h2=>.bd (zAv h2.2 (by simp) (by simp)) fun r3 h3=>.bd (wI h3.1 (by omega)) fun r4 h4=>.cd (fun _=>?_) fun _=>?_
 ·exact .bd (zAv h4.1 (by simp) (by simp)) fun r5 h5=>.bd (zAv h5.1 (by simp) (by simp)) fun r6 h6=>.rt h2.1
 ·exact .bd (wI h4.1 (by omega)) fun r7 h7=>.rt h2.1
end Go.Pl

namespace Go.Pl
open Go Go.Ab Go.Wk Go.Pc
theorem zDZ(c:List Int)(hb:∀i(h:i<c.length),0≤c[i]∧c[i]≤255):f_t c=jq js:=by
 by_cases hl:c.length≤4096
 ·obtain⟨⟨F,p,k⟩,h1,h2⟩:=zSs hb (by omega)
  exact zMQ zRU h1 h2
 ·unfold f_t
  rw[zRU,bs,jw (by omega),zJ]
theorem zCn(c:List Int)(h:VL VU c):f_t c=jq js:=zDZ c (vu h)
end Go.Pl
