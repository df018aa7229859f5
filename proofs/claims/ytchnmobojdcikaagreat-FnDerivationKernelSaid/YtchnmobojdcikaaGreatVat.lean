/- x -/
import Derived.Test.YtchnmobojdcikaaGreatVap
import Derived.Test.YtchnmobojdcikaaGreatVaq
import Derived.Test.YtchnmobojdcikaaGreatVar
import Derived.Test.YtchnmobojdcikaaGreatWT
open Go.Proofs.Tryz renaming prog→J0
open Option renaming some→dS,none→dT
open Bool renaming true→dU,false→dV
namespace Go.Wk
open Go Go.Proofs Go.Ab
set_option maxRecDepth 100000
set_option maxHeartbeats 4000000
section
attribute [local irreducible] RW CW DK OkL Ok zU zY yO yZ XS.post rng xC yL ixO zL zX yM zV zE GTo zK FnC FnK xJ xQ Kp Lk BsL BuL RpL Bk Lc JQ AK
instance t_cl:FI J0 153 (∀(a:SPr)(b:zB),FnK J0 153 [T.ro ((Pt xR) a),T.ro ((Pt yX) b)] (fun r:(List (List Int))=>[lM r]) (fun _=>[]) (zUo a b)):=⟨Tryz.call153,fun a b=>iM Tryz.func153⟩
instance t_cV:FI J0 149 (∀(a:SPr)(b:zB),FnK J0 149 [T.ro ((Pt xR) a),T.ro ((Pt yX) b)] (fun r=>[I r]) (fun _=>[]) (zZM a b)):=⟨Tryz.call149,fun a b=>iM Tryz.func149⟩
instance t_cR:FI J0 47 (∀(a:SPr)(b:zB),FnK J0 47 [qPr a,xD b] (fun r=>[I r.1,I r.2]) (fun _=>[]) (zZN a b)):=⟨Tryz.call47,fun a b=>iM Tryz.func47⟩
instance t_cT:FI J0 49 (∀(a:SPr)(b:zB),FnK J0 49 [qPr a,xD b] (fun r:(List (List Int))×Int=>[lM r.1,I r.2]) (fun _=>[]) (zZO a b)):=⟨Tryz.call49,fun a b=>iM Tryz.func49⟩
instance:HS Tryz.f8.8 [(2,4,0,.trq 5 34 [2]),(2,4,1,.trq 6 34 [3]),(2,5,0,.trq 7 44 [0]),(0,52,0,.fz 5),(0,52,1,.res 50 5 []),(0,52,2,.fz 6),(0,52,3,.res 51 6 []),(2,11,0,.tr 11 67),(2,13,0,.trq 14 78 [0]),(2,14,0,.trq 16 85 [0]),(2,15,0,.trq 18 92 [0]),(2,18,0,.trq 20 109 [0]),(2,19,0,.trq 22 117 [0]),(2,20,0,.trq 24 125 [0]),(2,21,0,.trq 26 133 [0]),(0,141,0,.fz 14),(0,141,1,.res 140 14 [])]:=⟨⟩
instance t_ct:FI J0 8 (∀(a:List Int),FnK J0 8 [T.ro ((L 1 (IK .u8)) a)] (fun r=>[B r]) (fun _=>[]) (zXn a)):=⟨Tryz.call8,fun a=>iM Tryz.func8⟩
end
end Go.Wk
