/- x -/
import Derived.Test.YtchnmobojdcikaaGreatVap
import Derived.Test.YtchnmobojdcikaaGreatVaq
import Derived.Test.YtchnmobojdcikaaGreatVar
import Derived.Test.YtchnmobojdcikaaGreatWT
open Go.Proofs.Tryz renaming prog→J0
open Option renaming some→dS,none→dT
open Bool renaming true→dU,false→dV
namespace Go.Wk
open Go Go.Proofs Go.Ab
set_option maxRecDepth 100000
set_option maxHeartbeats 4000000
section
attribute [local irreducible] RW CW DK OkL Ok zU zY yO yZ XS.post rng xC yL ixO zL zX yM zV zE GTo zK FnC FnK xJ xQ Kp Lk BsL BuL RpL Bk Lc JQ AK
instance:HS Tryz.f5.8 [(2,4,0,.trq 5 38 [2]),(2,4,1,.trq 6 38 [3]),(2,5,0,.trq 7 48 [0]),(2,6,0,.trq 9 56 [0]),(2,11,0,.tr 11 71),(2,13,0,.trq 14 82 [0]),(2,14,0,.trq 16 89 [0]),(2,15,0,.trq 18 96 [0]),(1,20,0,.trf 120 2 119 [2,0]),(1,22,0,.trf 127 2 126 [2,0]),(1,24,0,.trf 134 2 133 [2,0]),(1,26,0,.trf 141 2 140 [2,0]),(1,28,0,.trf 167 2 166 [2,0]),(2,25,0,.trq 30 174 [0]),(2,26,0,.trq 32 182 [0])]:=⟨⟩
instance t_cs:FI J0 5 (∀(a:List Int),FnK J0 5 [T.ro ((L 1 (IK .u8)) a)] (fun r=>[B r]) (fun _=>[]) (zXk a)):=⟨Tryz.call5,fun a=>iM Tryz.func5⟩
end
end Go.Wk
