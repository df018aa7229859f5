/- x -/
import Derived.Test.YtchnmobojdcikaaGreatPVaa
import Derived.Test.YtchnmobojdcikaaGreatPVac
import Derived.Test.YtchnmobojdcikaaGreatPVae
import Derived.Test.YtchnmobojdcikaaGreatPVaf
import Derived.Test.YtchnmobojdcikaaGreatPVag
import Derived.Test.YtchnmobojdcikaaGreatPVah
import Derived.Test.YtchnmobojdcikaaGreatPVai
import Derived.Test.YtchnmobojdcikaaGreatPWT
open Go.Proofs.Tryz renaming prog→J0,underlying3→H2,underlying141→Hh
open List renaming replicate→J1
open Nat renaming le_refl→Ji,zero_le→Kc
open Option renaming some→aB,none→aC
open Bool renaming true→aD,false→aE
namespace Go.Wk
open Go Go.Proofs Go.Ab
set_option maxRecDepth 100000
set_option maxHeartbeats 4000000
section
attribute [local irreducible] RW CW DK OkL Ok yA yB xE xH XS.post rng xK yV ixO zN yD xC zU zC GTo zO FnC FnK xV wG Kp Lk BsL BuL RpL Bk Lc JQ AK
instance:HS Tryz.f315.8 [(1,4,0,.trf 34 0 5 [0,0]),(1,4,1,.trf 34 1 5 [1,0]),(1,4,2,.trf 34 2 5 [2,0])]:=⟨⟩
instance t_bt:FI J0 315 (∀(a:zH)(b:Int),FnK J0 315 [T.ptr (uJ a),I b] (fun r=>[xT r.1]) (fun r=>[(0,(Pt (fun x=>T.agg [(Ro (L 1 (IK .u8))) x.code,I x.at_,I x.seed])) r.2)]) (zRR a b)):=⟨Tryz.call315,fun a b=>iM Tryz.func315⟩
instance:HS Tryz.f316.8 [(2,2,0,.trq 7 21 [0]),(2,3,0,.tr 9 25),(0,35,0,.tr 32 9),(2,5,0,.tr 9 35),(0,14,0,.fz 56),(0,14,1,.fz 100),(1,6,0,.trf 101 0 11 [0,0]),(1,6,1,.trf 101 1 11 [1,0]),(1,6,2,.trf 101 2 11 [2,0])]:=⟨⟩
instance(b:Int)(c:List (List Int)):LH (R:=SPr) (zU6 b c) [0,1,6,7] [] (fun a=>[(9,L 1 I a.1),(10,I a.2)]) (.xe 0 [] fun d=>[(9,L 1 I d)]):=⟨⟩
instance(a:(List Int)×Bool)(b:(List Int)):LN (zRS a b) 11:=⟨⟩
instance(c:(List Int)×Bool)(d:(List Int))(A0 A1 A2:T):LHk (R:=SPr) (zRS c d) (T.ptr (T.agg [A0,A1,A2])) [0,1,6,7,9,12] [] (fun b=>[(11,T.ptr (T.agg [A0,L 1 lV b.1,A2])),(13,I b.2)]) (.xe 2 [9] fun a=>[(11,T.ptr (T.agg [A0,L 1 lV a,A2]))]):=⟨⟩
instance(b:List (List Int))(c:(List Int)×Bool)(a:(List (List (List Int)))×(List (List Int))×Int):LN (zRT b c a) 11:=⟨⟩
instance(d:List (List Int))(e:(List Int)×Bool)(b:(List (List (List Int)))×(List (List Int))×Int)(A0 A1 A2:T):LHk (R:=SPr) (zRT d e b) (T.ptr (T.agg [A0,A1,A2])) [0,1,6,7,12,14,15] [] (fun a=>[(11,T.ptr (T.agg [A0,A1,L 1 lM a.1])),(16,I a.2)]) (.xe 6 [] fun c=>[(11,T.ptr (T.agg [A0,A1,L 1 lM c]))]):=⟨⟩
instance(d:Int)(e:List (List Int))(f:(List Int)×Bool)(b:(List (List (List Int)))×(List (List Int))×Int):LH (R:=SPr) (zRU d e f b) [0,1,6,7,11,12,15,17] [] (fun a=>[(14,T.ro (lM a.1)),(18,I a.2)]) (.xe 8 [17] fun c=>[(14,T.ro (lM c))]):=⟨⟩
instance(a:Int)(b:List (List Int))(c:(List Int)×Bool):LN (zPX a b c) 11:=⟨⟩
instance(c:Int)(d:List (List Int))(e:(List Int)×Bool)(A0 A1 A2:T):LHk (R:=SPr) (zPX c d e) (T.ptr (T.agg [A0,A1,A2])) [0,1,6,7,12] [] (fun a=>[(11,T.ptr (T.agg [A0,A1,L 1 lM a.1])),(14,T.ro (lM a.2.1)),(15,I a.2.2)]) (.xe 4 [0,1,7,12] fun b=>[(11,T.ptr (T.agg [A0,A1,L 1 lM b]))]):=⟨⟩
instance t_l:FI J0 316 (∀(a:Int)(b:List (List Int))(c:Int),FnK J0 316 [I a,T.ro (lM b),I c] (fun r=>[xT r]) (fun _=>[]) (f_l a b c)):=⟨Tryz.call316,fun a b c=>iM Tryz.func316⟩
instance:HS Tryz.f312.8 [(2,2,0,.tr 9 14),(2,6,0,.tr 9 25),(2,7,0,.tr 10 30)]:=⟨⟩
instance(b:SPr)(c:Int):LH (R:=(List Int)) (zLV b c) [1,4] [] (fun a=>[(3,I a.1),(9,L 1 I a.2.1),(10,T.ro (lV a.2.2))]) (.xe 0 [1,4] fun d=>[(9,L 1 I d)]):=⟨⟩
instance t_aw:FI J0 312 (∀(a:SPr)(b:Int)(c:List Int)(d:Int),FnK J0 312 [qPr a,I b,T.ro (lV c),I d] (fun r=>[lV r]) (fun _=>[]) (zRt a b c d)):=⟨Tryz.call312,fun a b c d=>iM Tryz.func312⟩
end
theorem u_u(x0:List Int)(x1:Int)(r:(List Int))(h:f_u x0 x1=aB r):FnC J0 292 [T.ro (lV x0),I x1] [lV r] []:=by
 refine fB Tryz.func292 (fun St W w0 v=>?_);refine sR (oP (zLd 1 rfl) ?_);refine rN (CW.seq (sR (tH ?_)));refine zIE ?_;refine rN (cn h (fun hc h=>?_) (fun hc h=>?_))
 ·refine CW.region ?_
  cases h
 ·refine CW.skip (nA (sR (tH ?_)))
  refine zH3 ?_;refine oP (zEN H2 Hh rfl rfl) ?_;refine tH ?_;refine oP (zEN H2 Hh rfl rfl) ?_;obtain⟨r1,gV,h⟩:=bd h;refine cA Tryz.call320 (FnK.go (t_aZ.h _ _) gV) ?_;refine zVo ?_;refine zSE ?_;refine zSE ?_;refine zAK ?_;refine zAK ?_;refine rN (CW.seq (sR (tH ?_)));refine oP (zJG rfl rfl rfl) ?_;refine tH ?_;refine RW.cases 23 _ rfl (fun hc=>?_) (fun hc=>?_)
  ·have h:=cT hc h
   refine sk2 ?_;refine sk2 ?_;refine zH4 ?_;refine rN (CW.condT rfl ?_);refine CW.region ?_;cases h
  ·have h:=cF hc h
   refine zT0 ?_;refine RW.cons (yY.guard 2 aE 23 (zJG rfl rfl rfl)) ?_;refine zH4 ?_;refine rN (cn h (fun hc h=>?_) (fun hc h=>?_))
   ·refine CW.region ?_
    cases h
   ·refine CW.skip (nA (sR (tH ?_)))
    refine oP (zEN Hh H2 rfl rfl) ?_;obtain⟨m2,hm2,h⟩:=bd h;refine oP (zLh (f:=I) (z:=0) elt_24 (rfl) hm2 rfl rfl rfl) ?_;refine zAK ?_;refine RW.ghost (zO.tr 7 30 _ rfl rfl (zAZ (zDT (Enc.clean (f:=I)))) rfl) ?_;refine rN (CW.seq (CW.to [(0,T.ro (lV x0)),(7,L 1 I (J1 m2 (0:Int)))] ⟨rfl,rfl,trivial⟩ ?_));refine CW.region (tH ?_);refine tH ?_;refine oP (zLm elt_24 rfl (fun _=>(zCA.same rfl rfl)) (fun _=>(zF5.ro (zDr rfl rfl))) (Kc _) (Ji _) rfl) ?_;refine zAK ?_;refine rN (CW.seq (CW.block ?_));obtain⟨r6,bO,h⟩:=bd h;refine CW.lp (s:=(vF (J1 m2 (0:Int)) 0 (x0.take (((J1 m2 (0:Int)).length)-0)),((min x0.length (((J1 m2 (0:Int)).length)-0):Nat):Int))) zEH (fun s1:(List Int)×Int=>uC [(7,L 1 I s1.1),(8,I s1.2)]) (fun(r6:(List Int)) e E=>e=.exit 0∧zO ⟨St,W,w0,Tryz.f292.ntmps⟩ E (uC [(7,L 1 I r6)])) (.has ⟨rfl,rfl,trivial⟩) (fun s1 x h=>?_) bO (fun e E hq=>?_)
    ·refine CW.seq (sR (tH ?_))
     refine tH ?_;refine zVn ?_;refine zIE ?_;refine rN (cn h (fun hc h=>?_) (fun hc h=>?_))
     ·refine CW.skip (nA (CW.block ?_))
      obtain⟨v3,cj,h⟩:=bd h;obtain⟨v4,pM,h⟩:=bd h;obtain⟨v5,hv5,h⟩:=bd h;refine CW.dk ?_;refine zAw [(8,_)] ?_;refine zAw [(7,_)] ?_;refine zAw [(8,_)] ?_;refine dG [(39,_),(7,_),(40,_)] [([(41,aB (T.sub 7 [] 1 ((s1.2:Int).toNat) ((s1.1.length:Int).toNat)))],[(41,0)])] ⟨rfl,rfl,rfl,trivial⟩ (fun E h=>yY.opE (zNV row_24 cj (zGp h.1 h.2.1 rfl rfl) (zTm (zGK cj) h.2.2.1) zUZ rfl) rfl) ?_;refine zAw [(7,_)] ?_;refine zAw [(8,_)] ?_;refine dG [(42,_),(7,_),(43,_)] [([(44,aB (T.sub 7 [] 1 ((0:Int).toNat) ((s1.2:Int).toNat)))],[(44,0)])] ⟨rfl,rfl,rfl,trivial⟩ (fun E h=>yY.opE (zNV row_24 pM (zGp h.1 h.2.1 rfl rfl) zVa (zTm (zGL pM) h.2.2.1) rfl) rfl) ?_;refine dG [(41,_),(7,_),(44,_)] [([(7,aB (L 1 I (vF s1.1 ((s1.2:Int).toNat) (v4.take (((s1.1.length:Int).toNat)-((s1.2:Int).toNat))))))],[(7,1)]),([(45,aB (I ((min v4.length (((s1.1.length:Int).toNat)-((s1.2:Int).toNat)):Nat):Int)))],[(45,0)])] ⟨rfl,rfl,rfl,trivial⟩ (fun E h=>yY.opE (zLm elt_24 h.2.1 (fun _=>(zCA.sub h.1)) (fun _=>(zF5.sub h.2.2.1 h.2.1 rfl pM)) (zMt cj) (zMu cj) rfl) rfl) ?_;refine zVp [(38,_),(45,_)] ?_;refine zWK [(46,_)] ?_;refine dNA zDb ?_;exact nB (eN h)
     ·refine CW.exit (xA ?_)
      exact eX h
    ·obtain⟨rfl,hg⟩:=hq
     refine xB ?_;refine nA (CW.ghost hg ?_);refine sR (tH ?_);refine zAK ?_;refine RW.ghost (zO.tr 4 7 _ rfl rfl (zAZ (zDT (Enc.clean (f:=I)))) rfl) ?_;refine rN (CW.ret ?_);obtain rfl:=sI h;exact rT
instance t_u:FI J0 292 (∀(a:List Int)(b:Int),FnK J0 292 [T.ro (lV a),I b] (fun r=>[lV r]) (fun _=>[]) (f_u a b)):=⟨Tryz.call292,fun a b=>FnK.mk (u_u a b)⟩
section
attribute [local irreducible] RW CW DK OkL Ok yA yB xE xH XS.post rng xK yV ixO zN yD xC zU zC GTo zO FnC FnK xV wG Kp Lk BsL BuL RpL Bk Lc JQ AK
instance:HS Tryz.f295.8 [(0,12,0,.fz 8),(0,12,1,.fz 11)]:=⟨⟩
instance t_bn:FI J0 295 (∀(a:List Int)(b c:Int),FnK J0 295 [T.ro (lV a),I b,I c] (fun r=>[lV r]) (fun _=>[]) (zRB a b c)):=⟨Tryz.call295,fun a b c=>iM Tryz.func295⟩
end
end Go.Wk
