/- x -/
import Derived.Test.YtchnmobojdcikaaGreatQVac
import Derived.Test.YtchnmobojdcikaaGreatQVae
import Derived.Test.YtchnmobojdcikaaGreatQVaf
import Derived.Test.YtchnmobojdcikaaGreatQWT
open Go.Proofs.Tryz renaming prog→J0,underlying3→H1,underlying141→Hj
open List renaming replicate→J1
open Nat renaming le_refl→Jd,zero_le→Kd
open Option renaming some→dq,none→dt
open Bool renaming true→du,false→dv
namespace Go.Wk
open Go Go.Proofs Go.Ab
set_option maxRecDepth 100000
set_option maxHeartbeats 4000000
section
attribute [local irreducible] RW CW DK OkL Ok zS zV yQ xI XS.post rng xL yO ixO zP zU yT zZ zG GTo zM FnC FnK xK xN Kp Lk BsL BuL RpL Bk Lc JQ AK
instance t_bz:FI J0 273 (∀(a:SPr)(b:Int)(c:List Int),FnK J0 273 [T.ro ((Pt vW) a),I b,T.ro (lV c)] (fun r=>[B r]) (fun _=>[]) (zRe a b c)):=⟨Tryz.call273,fun a b c=>iM Tryz.func273⟩
instance(a:zF):LH (R:=Bool) (zKP a) [1,22,23] [] (fun b=>[(24,I b)]) (.xs (.xe 0 [1,22,23] fun _=>[]) .xr):=⟨⟩
instance t_U:FI J0 147 (∀(a:zF),FnK J0 147 [wZ a] (fun r=>[B r]) (fun _=>[]) (f_U a)):=⟨Tryz.call147,fun a=>iM Tryz.func147⟩
end
theorem u_Y(x0:List Int)(x1:Int)(r:(List Int))(h:f_Y x0 x1=dq r):FnC J0 292 [T.ro (lV x0),I x1] [lV r] []:=by
 refine fB Tryz.func292 (fun St W w0 v=>?_);refine sR (oP (zPM 1 rfl) ?_);refine rN (CW.seq (sR (zA6 ?_)));refine zNb ?_;refine rN (cn h (fun hc h=>?_) (fun hc h=>?_))
 ·refine CW.region ?_
  cases h
 ·refine CW.skip (nA (sR (zA6 ?_)))
  refine zIH ?_;refine oP (zFy H1 Hj rfl rfl) ?_;refine zA6 ?_;refine oP (zFy H1 Hj rfl rfl) ?_;obtain⟨r1,gE,h⟩:=bd h;refine cA Tryz.call320 (FnK.go (t_bD.h _ _) gE) ?_;refine zXK ?_;refine zVn ?_;refine zVn ?_;refine zCj ?_;refine zCj ?_;refine rN (CW.seq (sR (zA6 ?_)));refine oP (zL4 rfl rfl rfl) ?_;refine zA6 ?_;refine RW.cases 23 _ rfl (fun hc=>?_) (fun hc=>?_)
  ·have h:=cT hc h
   refine sk2 ?_;refine sk2 ?_;refine zII ?_;refine rN (CW.condT rfl ?_);refine CW.region ?_;cases h
  ·have h:=cF hc h
   refine zVV ?_;refine RW.cons (xC.guard 2 dv 23 (zL4 rfl rfl rfl)) ?_;refine zII ?_;refine rN (cn h (fun hc h=>?_) (fun hc h=>?_))
   ·refine CW.region ?_
    cases h
   ·refine CW.skip (nA (sR (zA6 ?_)))
    refine oP (zFy Hj H1 rfl rfl) ?_;obtain⟨m2,hm2,h⟩:=bd h;refine oP (zMQ (f:=I) (z:=0) elt_24 (rfl) hm2 rfl rfl rfl) ?_;refine zCj ?_;refine RW.ghost (zM.tr 7 30 _ rfl rfl (zDL (zAf (Enc.clean (f:=I)))) rfl) ?_;refine rN (CW.seq (CW.to [(0,T.ro (lV x0)),(7,L 1 I (J1 m2 (0:Int)))] ⟨rfl,rfl,trivial⟩ ?_));refine CW.region (zA6 ?_);refine zA6 ?_;refine oP (zIF elt_24 rfl (fun _=>(zCi.same rfl rfl)) (fun _=>(zEX.ro (zDK rfl rfl))) (Kd _) (Jd _) rfl) ?_;refine zCj ?_;refine rN (CW.seq (CW.block ?_));obtain⟨r6,au,h⟩:=bd h;refine CW.lp (s:=(vT (J1 m2 (0:Int)) 0 (x0.take (((J1 m2 (0:Int)).length)-0)),((min x0.length (((J1 m2 (0:Int)).length)-0):Nat):Int))) zKQ (fun s1:(List Int)×Int=>wQ [(7,L 1 I s1.1),(8,I s1.2)]) (fun(r6:(List Int)) e E=>e=.exit 0∧zM ⟨St,W,w0,Tryz.f292.ntmps⟩ E (wQ [(7,L 1 I r6)])) (.has ⟨rfl,rfl,trivial⟩) (fun s1 x h=>?_) au (fun e E hq=>?_)
    ·refine CW.seq (sR (zA6 ?_))
     refine zA6 ?_;refine zXJ ?_;refine zNb ?_;refine rN (cn h (fun hc h=>?_) (fun hc h=>?_))
     ·refine CW.skip (nA (CW.block ?_))
      obtain⟨v3,bW,h⟩:=bd h;obtain⟨v4,bV,h⟩:=bd h;obtain⟨v5,hv5,h⟩:=bd h;refine CW.dk ?_;refine zA7 [(8,_)] ?_;refine zA7 [(7,_)] ?_;refine zA7 [(8,_)] ?_;refine dG [(39,_),(7,_),(40,_)] [([(41,dq (T.sub 7 [] 1 ((s1.2:Int).toNat) ((s1.1.length:Int).toNat)))],[(41,0)])] ⟨rfl,rfl,rfl,trivial⟩ (fun E h=>xC.opE (zPR row_24 bW (zHf h.1 h.2.1 rfl rfl) (zVF (zHI bW) h.2.2.1) zX8 rfl) rfl) ?_;refine zA7 [(7,_)] ?_;refine zA7 [(8,_)] ?_;refine dG [(42,_),(7,_),(43,_)] [([(44,dq (T.sub 7 [] 1 ((0:Int).toNat) ((s1.2:Int).toNat)))],[(44,0)])] ⟨rfl,rfl,rfl,trivial⟩ (fun E h=>xC.opE (zPR row_24 bV (zHf h.1 h.2.1 rfl rfl) zX9 (zVF (zHJ bV) h.2.2.1) rfl) rfl) ?_;refine dG [(41,_),(7,_),(44,_)] [([(7,dq (L 1 I (vT s1.1 ((s1.2:Int).toNat) (v4.take (((s1.1.length:Int).toNat)-((s1.2:Int).toNat))))))],[(7,1)]),([(45,dq (I ((min v4.length (((s1.1.length:Int).toNat)-((s1.2:Int).toNat)):Nat):Int)))],[(45,0)])] ⟨rfl,rfl,rfl,trivial⟩ (fun E h=>xC.opE (zIF elt_24 h.2.1 (fun _=>(zCi.sub h.1)) (fun _=>(zEX.sub h.2.2.1 h.2.1 rfl bV)) (zOj bW) (zOl bW) rfl) rfl) ?_;refine zXL [(38,_),(45,_)] ?_;refine zZm [(46,_)] ?_;refine dNA zD4 ?_;exact nB (eN h)
     ·refine CW.exit (xA ?_)
      exact eX h
    ·obtain⟨rfl,hg⟩:=hq
     refine xB ?_;refine nA (CW.ghost hg ?_);refine sR (zA6 ?_);refine zCj ?_;refine RW.ghost (zM.tr 4 7 _ rfl rfl (zDL (zAf (Enc.clean (f:=I)))) rfl) ?_;refine rN (CW.ret ?_);obtain rfl:=sI h;exact rT
instance t_Y:FI J0 292 (∀(a:List Int)(b:Int),FnK J0 292 [T.ro (lV a),I b] (fun r=>[lV r]) (fun _=>[]) (f_Y a b)):=⟨Tryz.call292,fun a b=>FnK.mk (u_Y a b)⟩
section
attribute [local irreducible] RW CW DK OkL Ok zS zV yQ xI XS.post rng xL yO ixO zP zU yT zZ zG GTo zM FnC FnK xK xN Kp Lk BsL BuL RpL Bk Lc JQ AK
instance:HS Tryz.f133.8 [(2,2,0,.tr 5 10)]:=⟨⟩
instance(b:List Int)(c:zF):LH (R:=(List Int)) (zFh b c) [3,11,12] [] (fun a=>[(5,L 1 I a.1),(13,I a.2)]) (.xe 0 [3,11,12] fun d=>[(5,L 1 I d)]):=⟨⟩
instance t_ac:FI J0 133 (∀(a:List Int)(b:zF),FnK J0 133 [T.ro (lV a),wZ b] (fun r=>[lV r]) (fun _=>[]) (zOK a b)):=⟨Tryz.call133,fun a b=>iM Tryz.func133⟩
instance t_bt:FI J0 235 (∀(a:List (List Int))(b:List (List Int)),FnK J0 235 [T.ro (lM a),T.ro (lM b)] (fun r=>[B r]) (fun _=>[]) (zR2 a b)):=⟨Tryz.call235,fun a b=>iM Tryz.func235⟩
instance:HS Tryz.f181.8 [(0,16,0,.tr 12 3),(2,6,0,.tr 3 16)]:=⟨⟩
instance(b:List (List Int)):LH (R:=(List Int)) (zLh b) [6,7] [] (fun a=>[(3,L 1 I a.1),(8,I a.2)]) (.xe 0 [6,7] fun c=>[(3,L 1 I c)]):=⟨⟩
instance t_ax:FI J0 181 (∀(a:List (List Int)),FnK J0 181 [T.ro (lM a)] (fun r=>[lV r]) (fun _=>[]) (zOV a)):=⟨Tryz.call181,fun a=>iM Tryz.func181⟩
instance(a:List (List (List Int)))(b:List (List (List Int))):LH (R:=Bool) (zS0 a b) [0,1] [] (fun c=>[(5,I c)]) (.xs (.xe 0 [0,1] fun _=>[]) .xr):=⟨⟩
instance t_br:FI J0 122 (∀(a:List (List (List Int)))(b:List (List (List Int))),FnK J0 122 [T.ro (lC a),T.ro (lC b)] (fun r=>[B r]) (fun _=>[]) (zXg a b)):=⟨Tryz.call122,fun a b=>iM Tryz.func122⟩
end
end Go.Wk
