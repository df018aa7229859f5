/- x -/
import Derived.Test.YtchnmobojdcikaaGreatVag
import Derived.Test.YtchnmobojdcikaaGreatVah
import Derived.Test.YtchnmobojdcikaaGreatVai
import Derived.Test.YtchnmobojdcikaaGreatWT
open Go.Proofs.Tryz renaming prog→J0,underlying3→Hr,underlying141→Hs,call320→Jab
open List renaming replicate→J1
open Nat renaming le_refl→Jd,zero_le→Kc
open Option renaming some→dS,none→dT
open Bool renaming true→dU,false→dV
namespace Go.Wk
open Go Go.Proofs Go.Ab
set_option maxRecDepth 100000
set_option maxHeartbeats 4000000
section
attribute [local irreducible] RW CW DK OkL Ok zU zY yO yZ XS.post rng xC yL ixO zL zX yM zV zE GTo zK FnC FnK xJ xQ Kp Lk BsL BuL RpL Bk Lc JQ AK
instance t_aB:FI J0 136 (∀(a:SPr)(b:zB),FnK J0 136 [qPr a,xD b] (fun r=>[B r]) (fun _=>[]) (zG3 a b)):=⟨Tryz.call136,fun a b=>iM Tryz.func136⟩
instance:HS Tryz.f189.8 [(2,2,0,.tr 7 11)]:=⟨⟩
instance(c:Int)(d:List (List Int)):LH (R:=(List Int)) (zMI c d) [0,1] [] (fun b=>[(7,L 1 I b.1),(8,I b.2)]) (.xe 0 [0,1] fun a=>[(7,L 1 I a)]):=⟨⟩
instance t_aD:FI J0 189 (∀(a:Int)(b:List (List Int))(c:List Int),FnK J0 189 [I a,T.ro (lM b),T.ro (lV c)] (fun r=>[lV r]) (fun _=>[]) (zOy a b c)):=⟨Tryz.call189,fun a b c=>iM Tryz.func189⟩
instance:HS Tryz.f151.8 [(2,2,0,.tr 5 12),(2,6,0,.tr 7 25),(0,7,0,.fz 40),(2,10,0,.tr 9 41),(0,62,0,.tr 59 9),(2,15,0,.tr 9 62),(0,80,0,.fz 79),(0,81,0,.tr 63 9),(0,87,0,.tr 84 9),(2,19,0,.tr 9 87),(2,4,0,.tr 5 9)]:=⟨⟩
instance(c:Int)(d:(List (List Int))×Int)(e:Int)(f:(List Int)):LH (R:=(List (List Int))) (zID c d e f) [0,1,5,6,7,8] [] (fun b=>[(9,L 1 (Ro lV) b.1),(10,B b.2.1),(11,I b.2.2)]) (.xe 2 [5,8] fun a=>[(9,L 1 (Ro lV) a.1),(10,B a.2)]):=⟨⟩
instance(c:Int)(d:List (List Int)):LH (R:=(List (List Int))) (zQS c d) [0,1] [] (fun b=>[(5,L 1 (Ro lV) b.1),(6,I b.2)]) (.xe 0 [0,1] fun a=>[(5,L 1 (Ro lV) a)]):=⟨⟩
instance t_r:FI J0 151 (∀(a:Int)(b:List (List Int)),FnK J0 151 [I a,T.ro (lM b)] (fun r:(List (List Int))=>[(L 1 (Ro lV)) r]) (fun _=>[]) (f_r a b)):=⟨Tryz.call151,fun a b=>iM Tryz.func151⟩
instance:HS Tryz.f257.8 [(2,2,0,.tr 5 10),(2,3,0,.tr 6 11),(0,30,0,.tr 18 6),(0,33,0,.fz 6),(0,33,1,.res 32 6 [])]:=⟨⟩
instance(b:List (List Int))(c:(List (List Int))):LH (R:=(List (List Int))) (zMK b c) [0,1,5] [] (fun a=>[(6,L 1 lV a.1),(7,I a.2)]) (.xe 0 [1,5] fun d=>[(6,L 1 lV d)]):=⟨⟩
instance t_a9:FI J0 257 (∀(a:Int)(b:List (List Int)),FnK J0 257 [I a,T.ro (lM b)] (fun r:(List (List Int))=>[(L 1 (Ro lV)) r]) (fun _=>[]) (zUf a b)):=⟨Tryz.call257,fun a b=>iM Tryz.func257⟩
instance:HS Tryz.f163.8 [(2,2,0,.tr 7 12),(2,3,0,.tr 8 13),(0,36,0,.tr 27 8),(2,5,0,.tr 8 36)]:=⟨⟩
instance(c:Int)(d:(List (List Int))):LH (R:=(List (List Int))) (zQT c d) [2,7] [] (fun b=>[(8,L 1 lV b.1),(9,I b.2)]) (.xe 0 [2,7] fun a=>[(8,L 1 lV a)]):=⟨⟩
instance t_X:FI J0 163 (∀(a:Int)(b:List (List Int))(c:Int),FnK J0 163 [I a,T.ro (lM b),I c] (fun r:(List (List Int))=>[lM r]) (fun _=>[]) (f_X a b c)):=⟨Tryz.call163,fun a b c=>iM Tryz.func163⟩
instance(a:zJ):LH (R:=Bool) (zM8 a) [1,22,23] [] (fun b=>[(24,I b)]) (.xs (.xe 0 [1,22,23] fun _=>[]) .xr):=⟨⟩
instance t_au:FI J0 147 (∀(a:zJ),FnK J0 147 [uS a] (fun r=>[B r]) (fun _=>[]) (zOt a)):=⟨Tryz.call147,fun a=>iM Tryz.func147⟩
instance t_c3:FI J0 333 (∀(a b:Int),FnK J0 333 [(IK .u64) a,(IK .u64) b] (fun r=>[(IK .u64) r.1,(IK .u64) r.2]) (fun _=>[]) (yBU a b)):=⟨Tryz.call333,fun a b=>iM Tryz.func333⟩
instance t_cg:FI J0 320 (∀(a b:Int),FnK J0 320 [(IK .u64) a,(IK .u64) b] (fun r=>[(IK .u64) r.1,(IK .u64) r.2]) (fun _=>[]) (zWw a b)):=⟨Jab,fun a b=>iM Tryz.func320⟩
end
theorem yCU(x0:List Int)(x1:Int)(r:(List Int))(h:zTK x0 x1=dS r):FnC J0 292 [T.ro (lV x0),I x1] [lV r] []:=by
 refine fB Tryz.func292 (fun St W w0 v=>?_);refine sR (oP (zA9 1 rfl) ?_);refine rN (CW.seq (sR (xZ ?_)));refine zEH ?_;refine rN (cn h (fun hc h=>?_) (fun hc h=>?_))
 ·refine CW.region ?_
  cases h
 ·refine CW.skip (nA (sR (xZ ?_)))
  refine zH4 ?_;refine oP (zGH Hr Hs rfl rfl) ?_;refine xZ ?_;refine oP (zGH Hr Hs rfl rfl) ?_;obtain⟨r1,gC,h⟩:=bd h;refine cA Jab (FnK.go (t_cg.h _ _) gC) ?_;refine yAA ?_;refine zXK ?_;refine zXK ?_;refine uD ?_;refine uD ?_;refine rN (CW.seq (sR (xZ ?_)));refine oP (zNz rfl rfl rfl) ?_;refine xZ ?_;refine RW.cases 23 _ rfl (fun hc=>?_) (fun hc=>?_)
  ·have h:=cT hc h
   refine sk2 ?_;refine sk2 ?_;refine zF7 ?_;refine rN (CW.condT rfl ?_);refine CW.region ?_;cases h
  ·have h:=cF hc h
   refine zV2 ?_;refine RW.cons (yQ.guard 2 dV 23 (zNz rfl rfl rfl)) ?_;refine zF7 ?_;refine rN (cn h (fun hc h=>?_) (fun hc h=>?_))
   ·refine CW.region ?_
    cases h
   ·refine CW.skip (nA (sR (xZ ?_)))
    refine oP (zGH Hs Hr rfl rfl) ?_;obtain⟨m2,hm2,h⟩:=bd h;refine oP (zKk (f:=I) (z:=0) elt_24 (rfl) hm2 rfl rfl rfl) ?_;refine uD ?_;refine RW.ghost (zK.tr 7 30 _ rfl rfl (wL (vE (Enc.clean (f:=I)))) rfl) ?_;refine rN (CW.seq (CW.to [(0,T.ro (lV x0)),(7,L 1 I (J1 m2 (0:Int)))] ⟨rfl,rfl,trivial⟩ ?_));refine CW.region (xZ ?_);refine xZ ?_;refine oP (zKo elt_24 rfl (fun _=>(zCS.same rfl rfl)) (fun _=>(zGi.ro (jO rfl rfl))) (Kc _) (Jd _) rfl) ?_;refine uD ?_;refine rN (CW.seq (CW.block ?_));obtain⟨r6,bv,h⟩:=bd h;refine CW.lp (s:=(uC (J1 m2 (0:Int)) 0 (x0.take (((J1 m2 (0:Int)).length)-0)),((min x0.length (((J1 m2 (0:Int)).length)-0):Nat):Int))) zGs (fun s1:(List Int)×Int=>wT [(7,L 1 I s1.1),(8,I s1.2)]) (fun(r6:(List Int)) e E=>e=.exit 0∧zK ⟨St,W,w0,Tryz.f292.ntmps⟩ E (wT [(7,L 1 I r6)])) (.has ⟨rfl,rfl,trivial⟩) (fun s1 x h=>?_) bv (fun e E hq=>?_)
    ·refine CW.seq (sR (xZ ?_))
     refine xZ ?_;refine yA9 ?_;refine zEH ?_;refine rN (cn h (fun hc h=>?_) (fun hc h=>?_))
     ·refine CW.skip (nA (CW.block ?_))
      obtain⟨v3,pM,h⟩:=bd h;obtain⟨v4,mG,h⟩:=bd h;obtain⟨v5,ao,h⟩:=bd h;refine CW.dk ?_;refine tV [(8,_)] ?_;refine tV [(7,_)] ?_;refine tV [(8,_)] ?_;refine dG [(39,_),(7,_),(40,_)] [([(41,dS (T.sub 7 [] 1 ((s1.2:Int).toNat) ((s1.1.length:Int).toNat)))],[(41,0)])] ⟨rfl,rfl,rfl,trivial⟩ (fun E h=>yQ.opE (zL0 row_24 pM (zAE h.1 h.2.1 rfl rfl) (zSc (zF4 pM) h.2.2.1) zYu rfl) rfl) ?_;refine tV [(7,_)] ?_;refine tV [(8,_)] ?_;refine dG [(42,_),(7,_),(43,_)] [([(44,dS (T.sub 7 [] 1 ((0:Int).toNat) ((s1.2:Int).toNat)))],[(44,0)])] ⟨rfl,rfl,rfl,trivial⟩ (fun E h=>yQ.opE (zL0 row_24 mG (zAE h.1 h.2.1 rfl rfl) zXA (zSc (zF5 mG) h.2.2.1) rfl) rfl) ?_;refine dG [(41,_),(7,_),(44,_)] [([(7,dS (L 1 I (uC s1.1 ((s1.2:Int).toNat) (v4.take (((s1.1.length:Int).toNat)-((s1.2:Int).toNat))))))],[(7,1)]),([(45,dS (I ((min v4.length (((s1.1.length:Int).toNat)-((s1.2:Int).toNat)):Nat):Int)))],[(45,0)])] ⟨rfl,rfl,rfl,trivial⟩ (fun E h=>yQ.opE (zKo elt_24 h.2.1 (fun _=>(zCS.sub h.1)) (fun _=>(zGi.sub h.2.2.1 h.2.1 rfl mG)) (zQi pM) (zQj pM) rfl) rfl) ?_;refine yAB [(38,_),(45,_)] ?_;refine zV4 [(46,_)] ?_;refine dNA zA5 ?_;exact nB (eN h)
     ·refine CW.exit (xA ?_)
      exact eX h
    ·obtain⟨rfl,hg⟩:=hq
     refine xB ?_;refine nA (CW.ghost hg ?_);refine sR (xZ ?_);refine uD ?_;refine RW.ghost (zK.tr 4 7 _ rfl rfl (wL (vE (Enc.clean (f:=I)))) rfl) ?_;refine rN (CW.ret ?_);obtain rfl:=sI h;exact rT
instance t_ag:FI J0 292 (∀(a:List Int)(b:Int),FnK J0 292 [T.ro (lV a),I b] (fun r=>[lV r]) (fun _=>[]) (zTK a b)):=⟨Tryz.call292,fun a b=>FnK.mk (yCU a b)⟩
section
attribute [local irreducible] RW CW DK OkL Ok zU zY yO yZ XS.post rng xC yL ixO zL zX yM zV zE GTo zK FnC FnK xJ xQ Kp Lk BsL BuL RpL Bk Lc JQ AK
instance:HS Tryz.f135.8 [(0,20,0,.tr 16 3),(2,8,0,.tr 3 20)]:=⟨⟩
instance(b:(List Int)×Int)(c:Int):LH (R:=(List Int)) (zTL b c) [4,6,7,8,13] [] (fun a=>[(3,L 1 I a.1),(14,I a.2)]) (.xe 2 [4,13] fun d=>[(3,L 1 I d)]):=⟨⟩
instance(b:List Int):LH (R:=(List Int)) (zTM b) [6,7] [] (fun a=>[(3,L 1 I a.1),(8,I a.2)]) (.xe 0 [6,7] fun c=>[(3,L 1 I c)]):=⟨⟩
instance t_w:FI J0 135 (∀(a:List Int),FnK J0 135 [T.ro (lV a)] (fun r=>[lV r]) (fun _=>[]) (f_w a)):=⟨Tryz.call135,fun a=>iM Tryz.func135⟩
instance:HS Tryz.f234.8 [(0,37,0,.tr 21 3),(0,77,0,.tr 66 3),(2,15,0,.tr 3 77)]:=⟨⟩
instance(b:SPr):LH (R:=(List ((List Int)×(List Int)))) (zTN b) [0,14,15] [] (fun a=>[(3,L 2 (A2 lV) a.1),(16,I a.2)]) (.xe 0 [14,15] fun c=>[(3,L 2 (A2 lV) c)]):=⟨⟩
instance(c:(List ((List Int)×(List Int)))×Int)(d:List (List Int)):LH (R:=(List ((List Int)×(List Int)))) (zTO c d) [0,6,43,44,53,54] [] (fun b=>[(3,L 2 (A2 lV) b.1),(55,I b.2)]) (.xe 4 [6,53,54] fun a=>[(3,L 2 (A2 lV) a)]):=⟨⟩
instance(c:SPr):LH (R:=(List ((List Int)×(List Int)))) (zTP c) [0,43] [] (fun b=>[(3,L 2 (A2 lV) b.1),(44,I b.2)]) (.xe 2 [0,43] fun a=>[(3,L 2 (A2 lV) a)]):=⟨⟩
instance t_A:FI J0 234 (∀(a:SPr),FnK J0 234 [T.ro ((Pt xR) a)] (fun r:(List ((List Int)×(List Int)))=>[(L 2 (A2 lV)) r]) (fun _=>[]) (f_A a)):=⟨Tryz.call234,fun a=>iM Tryz.func234⟩
end
end Go.Wk
