/- x -/
import Derived.Test.YtchnmobojdcikaaGreatCVaa
import Derived.Test.YtchnmobojdcikaaGreatCVab
import Derived.Test.YtchnmobojdcikaaGreatCVac
import Derived.Test.YtchnmobojdcikaaGreatCVad
import Derived.Test.YtchnmobojdcikaaGreatCVae
import Derived.Test.YtchnmobojdcikaaGreatCVaf
import Derived.Test.YtchnmobojdcikaaGreatCWT
open Go.Proofs.Tryz renaming prog→J0,underlying3→Ht,underlying141→Hu
open List renaming replicate→J1
open Nat renaming le_refl→Jf,zero_le→Kb
open Option renaming some→iz,none→iA
open Bool renaming true→iB,false→iC
namespace Go.Wk
open Go Go.Proofs Go.Ab
set_option maxRecDepth 100000
set_option maxHeartbeats 4000000
section
attribute [local irreducible] RW CW DK OkL Ok zV yA yW xK XS.post rng xN yP ixO zO yG yO yB zG GTo zP FnC FnK xQ wB Kp Lk BsL BuL RpL Bk Lc JQ AK
instance:HS Tryz.f188.8 [(2,2,0,.tr 5 7),(0,26,0,.tr 17 5),(2,4,0,.tr 5 26)]:=⟨⟩
instance(b:List Int)(c:Int):LH (R:=(List (List Int))) (zMC b c) [0,1] [] (fun a=>[(5,L 1 lV a.1),(6,I a.2)]) (.xe 0 [0,1] fun d=>[(5,L 1 lV d)]):=⟨⟩
instance t_ad:FI J0 188 (∀(a:List Int)(b:Int),FnK J0 188 [T.ro (lV a),I b] (fun r:(List (List Int))=>[lM r]) (fun _=>[]) (zMD a b)):=⟨Tryz.call188,fun a b=>iM Tryz.func188⟩
instance(a:zT):LH (R:=Bool) (zMq a) [1,22,23] [] (fun b=>[(24,I b)]) (.xs (.xe 0 [1,22,23] fun _=>[]) .xr):=⟨⟩
instance t_aB:FI J0 147 (∀(a:zT),FnK J0 147 [qO a] (fun r=>[B r]) (fun _=>[]) (zWt a)):=⟨Tryz.call147,fun a=>iM Tryz.func147⟩
end
theorem u_A(x0:List Int)(x1:Int)(r:(List Int))(h:f_A x0 x1=iz r):FnC J0 292 [T.ro (lV x0),I x1] [lV r] []:=by
 refine fB Tryz.func292 (fun St W w0 v=>?_);refine sR (oP (zJf 1 rfl) ?_);refine rN (CW.seq (sR (uA ?_)));refine zGr ?_;refine rN (cn h (fun hc h=>?_) (fun hc h=>?_))
 ·refine CW.region ?_
  cases h
 ·refine CW.skip (nA (sR (uA ?_)))
  refine zKk ?_;refine oP (zGH Ht Hu rfl rfl) ?_;refine uA ?_;refine oP (zGH Ht Hu rfl rfl) ?_;obtain⟨r1,gK,h⟩:=bd h;refine cA Tryz.call320 (FnK.go (t_bA.h _ _) gK) ?_;refine yAK ?_;refine zXQ ?_;refine zXQ ?_;refine jV ?_;refine jV ?_;refine rN (CW.seq (sR (uA ?_)));refine oP (zNb rfl rfl rfl) ?_;refine uA ?_;refine RW.cases 23 _ rfl (fun hc=>?_) (fun hc=>?_)
  ·have h:=cT hc h
   refine sk2 ?_;refine sk2 ?_;refine zKl ?_;refine rN (CW.condT rfl ?_);refine CW.region ?_;cases h
  ·have h:=cF hc h
   refine zYI ?_;refine RW.cons (yS.guard 2 iC 23 (zNb rfl rfl rfl)) ?_;refine zKl ?_;refine rN (cn h (fun hc h=>?_) (fun hc h=>?_))
   ·refine CW.region ?_
    cases h
   ·refine CW.skip (nA (sR (uA ?_)))
    refine oP (zGH Hu Ht rfl rfl) ?_;obtain⟨m2,hm2,h⟩:=bd h;refine oP (zOL (f:=I) (z:=0) elt_24 (rfl) hm2 rfl rfl rfl) ?_;refine jV ?_;refine RW.ghost (zP.tr 7 30 _ rfl rfl (tV (tQ (Enc.clean (f:=I)))) rfl) ?_;refine rN (CW.seq (CW.to [(0,T.ro (lV x0)),(7,L 1 I (J1 m2 (0:Int)))] ⟨rfl,rfl,trivial⟩ ?_));refine CW.region (uA ?_);refine uA ?_;refine oP (zKi elt_24 rfl (fun _=>(zCZ.same rfl rfl)) (fun _=>(zGp.ro (zB0 rfl rfl))) (Kb _) (Jf _) rfl) ?_;refine jV ?_;refine rN (CW.seq (CW.block ?_));obtain⟨r6,bV,h⟩:=bd h;refine CW.lp (s:=(vF (J1 m2 (0:Int)) 0 (x0.take (((J1 m2 (0:Int)).length)-0)),((min x0.length (((J1 m2 (0:Int)).length)-0):Nat):Int))) zGB (fun s1:(List Int)×Int=>wZ [(7,L 1 I s1.1),(8,I s1.2)]) (fun(r6:(List Int)) e E=>e=.exit 0∧zP ⟨St,W,w0,Tryz.f292.ntmps⟩ E (wZ [(7,L 1 I r6)])) (.has ⟨rfl,rfl,trivial⟩) (fun s1 x h=>?_) bV (fun e E hq=>?_)
    ·refine CW.seq (sR (uA ?_))
     refine uA ?_;refine yAI ?_;refine zGr ?_;refine rN (cn h (fun hc h=>?_) (fun hc h=>?_))
     ·refine CW.skip (nA (CW.block ?_))
      obtain⟨v3,pH,h⟩:=bd h;obtain⟨v4,mV,h⟩:=bd h;obtain⟨v5,aZ,h⟩:=bd h;refine CW.dk ?_;refine qC [(8,_)] ?_;refine qC [(7,_)] ?_;refine qC [(8,_)] ?_;refine dG [(39,_),(7,_),(40,_)] [([(41,iz (T.sub 7 [] 1 ((s1.2:Int).toNat) ((s1.1.length:Int).toNat)))],[(41,0)])] ⟨rfl,rfl,rfl,trivial⟩ (fun E h=>yS.opE (zLk row_24 pH (zBY h.1 h.2.1 rfl rfl) (zRK (zFF pH) h.2.2.1) zY4 rfl) rfl) ?_;refine qC [(7,_)] ?_;refine qC [(8,_)] ?_;refine dG [(42,_),(7,_),(43,_)] [([(44,iz (T.sub 7 [] 1 ((0:Int).toNat) ((s1.2:Int).toNat)))],[(44,0)])] ⟨rfl,rfl,rfl,trivial⟩ (fun E h=>yS.opE (zLk row_24 mV (zBY h.1 h.2.1 rfl rfl) zXG (zRK (zFG mV) h.2.2.1) rfl) rfl) ?_;refine dG [(41,_),(7,_),(44,_)] [([(7,iz (L 1 I (vF s1.1 ((s1.2:Int).toNat) (v4.take (((s1.1.length:Int).toNat)-((s1.2:Int).toNat))))))],[(7,1)]),([(45,iz (I ((min v4.length (((s1.1.length:Int).toNat)-((s1.2:Int).toNat)):Nat):Int)))],[(45,0)])] ⟨rfl,rfl,rfl,trivial⟩ (fun E h=>yS.opE (zKi elt_24 h.2.1 (fun _=>(zCZ.sub h.1)) (fun _=>(zGp.sub h.2.2.1 h.2.1 rfl mV)) (zQb pH) (zQc pH) rfl) rfl) ?_;refine yAM [(38,_),(45,_)] ?_;refine yAL [(46,_)] ?_;refine dNA zBx ?_;exact nB (eN h)
     ·refine CW.exit (xA ?_)
      exact eX h
    ·obtain⟨rfl,hg⟩:=hq
     refine xB ?_;refine nA (CW.ghost hg ?_);refine sR (uA ?_);refine jV ?_;refine RW.ghost (zP.tr 4 7 _ rfl rfl (tV (tQ (Enc.clean (f:=I)))) rfl) ?_;refine rN (CW.ret ?_);obtain rfl:=sI h;exact rT
instance t_A:FI J0 292 (∀(a:List Int)(b:Int),FnK J0 292 [T.ro (lV a),I b] (fun r=>[lV r]) (fun _=>[]) (f_A a b)):=⟨Tryz.call292,fun a b=>FnK.mk (u_A a b)⟩
section
attribute [local irreducible] RW CW DK OkL Ok zV yA yW xK XS.post rng xN yP ixO zO yG yO yB zG GTo zP FnC FnK xQ wB Kp Lk BsL BuL RpL Bk Lc JQ AK
instance:HS Tryz.f133.8 [(2,2,0,.tr 5 10)]:=⟨⟩
instance(b:List Int)(c:zT):LH (R:=(List Int)) (zMs b c) [3,11,12] [] (fun a=>[(5,L 1 I a.1),(13,I a.2)]) (.xe 0 [3,11,12] fun d=>[(5,L 1 I d)]):=⟨⟩
instance t_az:FI J0 133 (∀(a:List Int)(b:zT),FnK J0 133 [T.ro (lV a),qO b] (fun r=>[lV r]) (fun _=>[]) (zUa a b)):=⟨Tryz.call133,fun a b=>iM Tryz.func133⟩
instance(a:zC)(b:List (List Int)):LH (R:=Bool) (zPJ a b) [0,7,8] [] (fun c=>[(9,I c)]) (.xs (.xe 0 [0,7,8] fun _=>[]) .xr):=⟨⟩
instance t_a6:FI J0 237 (∀(a:zC)(b:List (List Int)),FnK J0 237 [T.ro ((Pt xV) a),T.ro (lM b)] (fun r=>[B r]) (fun _=>[]) (zW4 a b)):=⟨Tryz.call237,fun a b=>iM Tryz.func237⟩
instance:HS Tryz.f294.8 [(0,22,0,.trq 18 4 [1,0]),(0,36,0,.tr 31 6),(2,10,0,.tr 6 36),(0,40,0,.tr 39 6),(0,41,0,.trq 38 4 [2,0]),(1,2,0,.trf 44 0 4 [0,0]),(1,2,1,.trf 44 1 4 [1,0]),(1,2,2,.trf 44 2 4 [2,0])]:=⟨⟩
instance(b:List Int):LH (R:=SPr) (zQL b) [2,3,4,13,14] [] (fun a=>[(6,L 1 lV a.1),(7,I a.2)]) (.xe 2 [] fun c=>[(6,L 1 lV c)]):=⟨⟩
instance(a:List Int):LN (zQM a) 4:=⟨⟩
instance(c:List Int)(A0 A1 A2:T):LHk (R:=SPr) (zQM c) (T.ptr (T.agg [A0,A1,A2])) [2,3,13] [] (fun b=>[(4,T.ptr (T.agg [A0,L 1 lV b.1,L 1 lM b.2.1])),(14,I b.2.2)]) (.xe 0 [3,13] fun a=>[(4,T.ptr (T.agg [A0,L 1 lV a.1,L 1 lM a.2]))]):=⟨⟩
instance t_O:FI J0 294 (∀(a:List Int),FnK J0 294 [T.ro (lV a)] (fun r=>[vE r]) (fun _=>[]) (f_O a)):=⟨Tryz.call294,fun a=>iM Tryz.func294⟩
instance:HS Tryz.f295.8 [(0,12,0,.fz 8),(0,12,1,.fz 11)]:=⟨⟩
instance t_bR:FI J0 295 (∀(a:List Int)(b c:Int),FnK J0 295 [T.ro (lV a),I b,I c] (fun r=>[lV r]) (fun _=>[]) (zWx a b c)):=⟨Tryz.call295,fun a b c=>iM Tryz.func295⟩
instance:HS Tryz.f187.8 [(0,23,0,.tr 14 5),(2,4,0,.tr 5 23)]:=⟨⟩
instance(b:List Int)(c:Int):LH (R:=(List (List Int))) (zM1 b c) [0,1] [] (fun a=>[(5,L 1 lV a.1),(6,I a.2)]) (.xe 0 [0,1] fun d=>[(5,L 1 lV d)]):=⟨⟩
instance t_an:FI J0 187 (∀(a:List Int)(b:Int),FnK J0 187 [T.ro (lV a),I b] (fun r:(List (List Int))=>[lM r]) (fun _=>[]) (zOe a b)):=⟨Tryz.call187,fun a b=>iM Tryz.func187⟩
instance:HS Tryz.f181.8 [(0,16,0,.tr 12 3),(2,6,0,.tr 3 16)]:=⟨⟩
instance(b:List (List Int)):LH (R:=(List Int)) (zMA b) [6,7] [] (fun a=>[(3,L 1 I a.1),(8,I a.2)]) (.xe 0 [6,7] fun c=>[(3,L 1 I c)]):=⟨⟩
instance t_aS:FI J0 181 (∀(a:List (List Int)),FnK J0 181 [T.ro (lM a)] (fun r=>[lV r]) (fun _=>[]) (zWB a)):=⟨Tryz.call181,fun a=>iM Tryz.func181⟩
instance(a:List (List Int))(b:List (List Int)):LH (R:=Bool) (zVa a b) [0,1] [] (fun c=>[(5,I c)]) (.xs (.xe 0 [0,1] fun _=>[]) .xr):=⟨⟩
instance t_aJ:FI J0 21 (∀(a:List (List Int))(b:List (List Int)),FnK J0 21 [T.ro (lM a),T.ro (lM b)] (fun r=>[B r]) (fun _=>[]) (zOq a b)):=⟨Tryz.call21,fun a b=>iM Tryz.func21⟩
end
end Go.Wk
