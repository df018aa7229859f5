/- x -/
import Derived.Test.YtcjmcjcfehbboaaGreatRVaa
import Derived.Test.YtcjmcjcfehbboaaGreatRVab
import Derived.Test.YtcjmcjcfehbboaaGreatRVad
import Derived.Test.YtcjmcjcfehbboaaGreatRVah
import Derived.Test.YtcjmcjcfehbboaaGreatRWT
open List renaming replicate→J0
open Go.Proofs.Tryz renaming prog->J1,underlying3->U0,underlying186->Uo
open Nat renaming le_refl->J9,zero_le->K4
open Option renaming some->Wu,none->Wv
open Bool renaming true->Ww,false->Wx
namespace Go.Wk
open Go Go.Proofs Go.Ab
set_option maxRecDepth 100000
set_option maxHeartbeats 4000000
theorem u_k(x0:List Int)(x1:Int)(r:(List Int))(h:f_k x0 x1=Wu r):FnC J1 142 [T.ro (lV x0),I x1] [lV r] []:=by
 refine fB Tryz.func142 (fun St W w0 v=>?_);refine sR (oP (zAn 1 rfl) ?_);refine rN (CW.seq (sR (zP ?_)));refine sV ?_;refine rN (cn h (fun hc h=>?_) (fun hc h=>?_))
 ·refine CW.region ?_
  cases h
 ·refine CW.skip (nA (sR (zP ?_)))
  refine qA ?_;refine oP (zKs U0 Uo rfl rfl) ?_;refine zP ?_;refine oP (zKs U0 Uo rfl rfl) ?_;obtain⟨r1,eO,h⟩:=bd h;refine cA Tryz.call172 (FnK.go (t_a4.h _ _) eO) ?_;refine zH4 ?_;refine zBa ?_;refine zBa ?_;refine xP ?_;refine xP ?_;refine rN (CW.seq (sR (zP ?_)));refine oP (zST rfl rfl rfl) ?_;refine zP ?_;refine RW.cases 23 _ rfl (fun hc=>?_) (fun hc=>?_)
  ·have h:=cT hc h
   refine sk2 ?_;refine sk2 ?_;refine zTa ?_;refine rN (CW.condT rfl ?_);refine CW.region ?_;cases h
  ·have h:=cF hc h
   refine yDr ?_;refine RW.cons (xN.guard 2 Wx 23 (zST rfl rfl rfl)) ?_;refine zTa ?_;refine rN (cn h (fun hc h=>?_) (fun hc h=>?_))
   ·refine CW.region ?_
    cases h
   ·refine CW.skip (nA (sR (zP ?_)))
    refine oP (zKs Uo U0 rfl rfl) ?_;obtain⟨m2,VB,h⟩:=bd h;refine oP (zBO (f:=I) (z:=0) elt_38 (rfl) VB rfl rfl rfl) ?_;refine xP ?_;refine RW.ghost (zI.tr 7 30 _ rfl rfl (zE (zJ (Enc.clean (f:=I)))) rfl) ?_;refine rN (CW.seq (CW.to [(0,T.ro (lV x0)),(7,L 1 I (J0 m2 (0:Int)))] ⟨rfl,rfl,trivial⟩ ?_));refine CW.region (zP ?_);refine zP ?_;refine oP (zKt elt_38 rfl (fun _=>(zC7.same rfl rfl)) (fun _=>(zGh.ro (uB rfl rfl))) (K4 _) (J9 _) rfl) ?_;refine xP ?_;refine rN (CW.seq (CW.block ?_));obtain⟨r6,dB,h⟩:=bd h;refine CW.lp (s:=(wU (J0 m2 (0:Int)) 0 (x0.take (((J0 m2 (0:Int)).length)-0)),((min x0.length (((J0 m2 (0:Int)).length)-0):Nat):Int))) zCj (fun s1:(List Int)×Int=>xR [(7,L 1 I s1.1),(8,I s1.2)]) (fun(r6:(List Int)) e E=>e=.exit 0/\zI ⟨St,W,w0,Tryz.f142.ntmps⟩ E (xR [(7,L 1 I r6)])) (.has ⟨rfl,rfl,trivial⟩) (fun s1 x h=>?_) dB (fun e E hq=>?_)
    ·refine CW.seq (sR (zP ?_))
     refine zP ?_;refine zAB ?_;refine sV ?_;refine rN (cn h (fun hc h=>?_) (fun hc h=>?_))
     ·refine CW.skip (nA (CW.block ?_))
      obtain⟨v3,pu,h⟩:=bd h;obtain⟨v4,mT,h⟩:=bd h;obtain⟨v5,hv5,h⟩:=bd h;refine CW.dk ?_;refine sP [(8,_)] ?_;refine sP [(7,_)] ?_;refine sP [(8,_)] ?_;refine dG [(39,_),(7,_),(40,_)] [([(41,Wu (T.sub 7 [] 1 ((s1.2:Int).toNat) ((s1.1.length:Int).toNat)))],[(41,0)])] ⟨rfl,rfl,rfl,trivial⟩ (fun E h=>xN.opE (zSM row_38 pu (jR h.1 h.2.1 rfl rfl) (zWo (zF3 pu) h.2.2.1) zZo rfl) rfl) ?_;refine sP [(7,_)] ?_;refine sP [(8,_)] ?_;refine dG [(42,_),(7,_),(43,_)] [([(44,Wu (T.sub 7 [] 1 ((0:Int).toNat) ((s1.2:Int).toNat)))],[(44,0)])] ⟨rfl,rfl,rfl,trivial⟩ (fun E h=>xN.opE (zSM row_38 mT (jR h.1 h.2.1 rfl rfl) yBi (zWo (zJl mT) h.2.2.1) rfl) rfl) ?_;refine dG [(41,_),(7,_),(44,_)] [([(7,Wu (L 1 I (wU s1.1 ((s1.2:Int).toNat) (v4.take (((s1.1.length:Int).toNat)-((s1.2:Int).toNat))))))],[(7,1)]),([(45,Wu (I ((min v4.length (((s1.1.length:Int).toNat)-((s1.2:Int).toNat)):Nat):Int)))],[(45,0)])] ⟨rfl,rfl,rfl,trivial⟩ (fun E h=>xN.opE (zKt elt_38 h.2.1 (fun _=>(zC7.sub h.1)) (fun _=>(zGh.sub h.2.2.1 h.2.1 rfl mT)) (zQ3 pu) (zQ4 pu) rfl) rfl) ?_;refine yBq [(38,_),(45,_)] ?_;refine zTc [(46,_)] ?_;refine dNA zAO ?_;exact nB (eN h)
     ·refine CW.exit (xA ?_)
      exact eX h
    ·obtain⟨rfl,hg⟩:=hq
     refine xB ?_;refine nA (CW.ghost hg ?_);refine sR (zP ?_);refine xP ?_;refine RW.ghost (zI.tr 4 7 _ rfl rfl (zE (zJ (Enc.clean (f:=I)))) rfl) ?_;refine rN (CW.ret ?_);obtain rfl:=sI h;exact rT
instance t_k:FI J1 142 (∀(a:List Int)(b:Int),FnK J1 142 [T.ro (lV a),I b] (fun r=>[lV r]) (fun _=>[]) (f_k a b)):=⟨Tryz.call142,fun a b=>FnK.mk (u_k a b)⟩
section
attribute [local irreducible] RW CW DK OkL Ok yX xC wK wY XS.post rng vP vL ixO zT yR wN yO zF GTo zI FnC FnK vB uC Kp Lk BsL BuL RpL Bk Lc
instance(a:yF):LH (R:=Bool) (zNl a) [1] [] (fun b=>[(3,I b)]) (.xs (.xe 0 [1] fun _=>[]) .xr):=⟨⟩
instance t_aF:FI J1 29 (∀(a:yF),FnK J1 29 [qG a] (fun r=>[B r]) (fun _=>[]) (zYc a)):=⟨Tryz.call29,fun a=>iM Tryz.func29⟩
instance:HS Tryz.f60.8 [(2,4,0,.tr 9 30),(0,39,0,.tr 36 9),(2,6,0,.tr 9 39),(2,14,0,.tr 14 54),(1,62,0,.tr 61 14),(2,24,0,.tr 17 89),(1,103,0,.tr 102 17),(1,6,0,.trf 106 0 11 [0,0]),(1,6,1,.trf 106 1 11 [1,0]),(1,6,2,.trf 106 2 11 [2,0])]:=⟨⟩
instance(b c:Int):LH (R:=SPr) (zRY b c) [1,3,6,7,8] [] (fun a=>[(9,L 1 I a.1),(10,I a.2)]) (.xe 0 [1] fun d=>[(9,L 1 I d)]):=⟨⟩
instance(a:SPr)(b:Int):LN (zOD a b) 11:=⟨⟩
instance(c:SPr)(d:Int)(A0 A1 A2:T):LHk (R:=SPr) (zOD c d) (T.ptr (T.agg [A0,A1,A2])) [3,6,7,8] [] (fun b=>[(11,T.ptr (T.agg [A0,L 1 lV b.1,A2])),(12,I b.2.1),(13,I b.2.2)]) (.xe 2 [] fun a=>[(11,T.ptr (T.agg [A0,L 1 lV a.1,A2])),(12,I a.2)]):=⟨⟩
instance(a:SPr)(b:Int)(c:(List (List (List Int)))×Int×Int):LN (zOE a b c) 11:=⟨⟩
instance(c:SPr)(d:Int)(e:(List (List (List Int)))×Int×Int)(A0 A1 A2:T):LHk (R:=SPr) (zOE c d e) (T.ptr (T.agg [A0,A1,A2])) [3,6,7,8,15] [] (fun a=>[(11,T.ptr (T.agg [A0,A1,L 1 lM a.1])),(12,I a.2.1),(16,I a.2.2)]) (.xe 6 [] fun b=>[(11,T.ptr (T.agg [A0,A1,L 1 lM b.1])),(12,I b.2)]):=⟨⟩
instance(a:SPr)(b:Int):LN (zOF a b) 11:=⟨⟩
instance(c:SPr)(d:Int)(A0 A1 A2:T):LHk (R:=SPr) (zOF c d) (T.ptr (T.agg [A0,A1,A2])) [3,6,7,8] [] (fun a=>[(11,T.ptr (T.agg [A0,A1,L 1 lM a.1])),(12,I a.2.1),(15,I a.2.2)]) (.xe 4 [3,7,8] fun b=>[(11,T.ptr (T.agg [A0,A1,L 1 lM b]))]):=⟨⟩
instance t_m:FI J1 60 (∀(a:SPr)(b c:Int),FnK J1 60 [qPr a,I b,I c] (fun r=>[yM r]) (fun _=>[]) (f_m a b c)):=⟨Tryz.call60,fun a b c=>iM Tryz.func60⟩
instance t_bq:FI J1 15 (∀(a b:yF),FnK J1 15 [qG a,qG b] (fun r=>[B r]) (fun _=>[]) (zYg a b)):=⟨Tryz.call15,fun a b=>iM Tryz.func15⟩
end
end Go.Wk
