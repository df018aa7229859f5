/- x -/
import Derived.Test.YtchnmobojdcikaaGreatPVaa
import Derived.Test.YtchnmobojdcikaaGreatPVab
import Derived.Test.YtchnmobojdcikaaGreatPVac
import Derived.Test.YtchnmobojdcikaaGreatPVaf
import Derived.Test.YtchnmobojdcikaaGreatPVag
import Derived.Test.YtchnmobojdcikaaGreatPVah
import Derived.Test.YtchnmobojdcikaaGreatPVaj
import Derived.Test.YtchnmobojdcikaaGreatPWT
open Go.Proofs.Tryz renaming prog→J0
open Option renaming some→aB,none→aC
open Bool renaming true→aD,false→aE
namespace Go.Wk
open Go Go.Proofs Go.Ab
set_option maxRecDepth 100000
set_option maxHeartbeats 4000000
section
attribute [local irreducible] RW CW DK OkL Ok yA yB xE xH XS.post rng xK yV ixO zN yD xC zU zC GTo zO FnC FnK xV wG Kp Lk BsL BuL RpL Bk Lc JQ AK
instance:HS Tryz.f304.8 [(2,2,0,.tr 7 10)]:=⟨⟩
instance(b:SPr)(c:List Int)(d:Int):LH (R:=(List Int)) (zJu b c d) [0,1,11] [] (fun a=>[(7,L 1 I a.1),(12,I a.2)]) (.xe 0 [0,1,11] fun e=>[(7,L 1 I e)]):=⟨⟩
instance t_aj:FI J0 304 (∀(a:SPr)(b:List Int)(c:Int),FnK J0 304 [T.ro ((Pt xT) a),T.ro (lV b),I c] (fun r=>[lV r]) (fun _=>[]) (zR4 a b c)):=⟨Tryz.call304,fun a b c=>iM Tryz.func304⟩
instance:HS Tryz.f305.8 [(2,2,0,.tr 7 12)]:=⟨⟩
instance(b:SPr)(c:List Int)(d:Int):LH (R:=(List Int)) (zPn b c d) [0,1,2,9,19,20,21,32] [] (fun a=>[(7,L 1 I a.1),(33,I a.2)]) (.xe 2 [9,32] fun e=>[(7,L 1 I e)]):=⟨⟩
instance(c:SPr)(d:Int)(e:List Int)(f:List (List Int)):LH (R:=(List Int)) (zPo c d e f) [0,1,2,19,20] [] (fun b=>[(7,L 1 I b.1),(21,I b.2)]) (.xe 0 [0,1,2,19,20] fun a=>[(7,L 1 I a)]):=⟨⟩
instance t_C:FI J0 305 (∀(a:SPr)(b:Int)(c:List Int),FnK J0 305 [T.ro ((Pt xT) a),I b,T.ro (lV c)] (fun r=>[lV r]) (fun _=>[]) (f_C a b c)):=⟨Tryz.call305,fun a b c=>iM Tryz.func305⟩
instance:HS Tryz.f327.8 [(2,2,0,.tr 5 9),(2,3,0,.tr 6 12)]:=⟨⟩
instance(c:SPr)(d:(List Int)×(List Int)×Int):LH (R:=(List Int)) (zMR c d) [0,7,14,15] [] (fun a=>[(5,L 1 I a.1),(6,L 1 I a.2)]) (.xe 2 [7] fun b=>[(5,L 1 I b.1),(6,L 1 I b.2)]):=⟨⟩
instance(b:SPr)(c:(List Int)):LH (R:=(List Int)) (zPp b c) [0,14] [] (fun a=>[(5,L 1 I a.1),(6,L 1 I a.2.1),(15,I a.2.2)]) (.xe 0 [0,14] fun d=>[(6,L 1 I d)]):=⟨⟩
instance t_N:FI J0 327 (∀(a:SPr)(b:List Int),FnK J0 327 [T.ro ((Pt xT) a),T.ro (lV b)] (fun r=>[lV r]) (fun _=>[]) (f_N a b)):=⟨Tryz.call327,fun a b=>iM Tryz.func327⟩
instance:HS Tryz.f144.8 [(2,2,0,.tr 7 9)]:=⟨⟩
instance t_bc:FI J0 144 (∀(a:SPr)(b c:List Int),FnK J0 144 [T.ro ((Pt xT) a),T.ro (lV b),T.ro (lV c)] (fun r=>[lV r]) (fun _=>[]) (zPq a b c)):=⟨Tryz.call144,fun a b c=>iM Tryz.func144⟩
instance:HS Tryz.f133.8 [(2,2,0,.tr 5 10)]:=⟨⟩
instance(b:List Int)(c:yE):LH (R:=(List Int)) (zJy b c) [3,11,12] [] (fun a=>[(5,L 1 I a.1),(13,I a.2)]) (.xe 0 [3,11,12] fun d=>[(5,L 1 I d)]):=⟨⟩
instance t_al:FI J0 133 (∀(a:List Int)(b:yE),FnK J0 133 [T.ro (lV a),zEW b] (fun r=>[lV r]) (fun _=>[]) (zR8 a b)):=⟨Tryz.call133,fun a b=>iM Tryz.func133⟩
instance t_bf:FI J0 235 (∀(a:List (List Int))(b:List (List Int)),FnK J0 235 [T.ro (lM a),T.ro (lM b)] (fun r=>[B r]) (fun _=>[]) (zRA a b)):=⟨Tryz.call235,fun a b=>iM Tryz.func235⟩
instance:HS Tryz.f113.8 [(0,16,0,.fz 15)]:=⟨⟩
instance t_ba:FI J0 113 (∀(a:zH)(b:SPr),FnK J0 113 [T.ptr (uJ a),qPr b] (fun r=>[I r.1]) (fun r=>[(0,(Pt (fun x=>T.agg [(Ro (L 1 (IK .u8))) x.code,I x.at_,I x.seed])) r.2)]) (zNg a b)):=⟨Tryz.call113,fun a b=>iM Tryz.func113⟩
instance(a:SPr)(b:Int):LH (R:=Bool) (zKD a b) [1,2,5,6] [] (fun c=>[(7,I c)]) (.xs (.xe 2 [] fun _=>[]) .xr):=⟨⟩
instance(a:SPr)(b:Int):LH (R:=Bool) (zNk a b) [1,2,5] [] (fun c=>[(6,I c)]) (.xs (.xe 0 [1,2,5] fun _=>[]) .xr):=⟨⟩
instance t_G:FI J0 119 (∀(a:SPr)(b:Int),FnK J0 119 [qPr a,I b] (fun r=>[B r]) (fun _=>[]) (f_G a b)):=⟨Tryz.call119,fun a b=>iM Tryz.func119⟩
end
end Go.Wk
