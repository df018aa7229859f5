/- x -/
import Derived.Test.YtchnmobojdcikaaGreatVbe
import Derived.Test.YtchnmobojdcikaaGreatVbf
import Derived.Test.YtchnmobojdcikaaGreatWT
open Option renaming some→dS,none→dT
open Bool renaming true→dU,false→dV
namespace Go.Wk
open Go Go.Proofs Go.Ab
set_option maxRecDepth 100000
set_option maxHeartbeats 4000000
section
attribute [local irreducible] RW CW DK OkL Ok zU zY yO yZ XS.post rng xC yL ixO zL zX yM zV zE GTo zK FnC FnK xJ xQ Kp Lk BsL BuL RpL Bk Lc JQ AK
instance:HS Tryz.f197.8 [(2,2,0,.tr 7 13)]:=⟨⟩
instance:HS Tryz.f82.8 [(1,6,0,.trf 22 0 21 [0,0]),(1,6,1,.trf 22 1 21 [1,0]),(1,6,2,.trf 22 2 21 [2,0])]:=⟨⟩
instance:HS Tryz.f96.8 [(2,5,0,.trq 9 23 [0])]:=⟨⟩
instance:HS Tryz.f14.8 [(2,4,0,.trq 5 28 [2]),(2,5,0,.trq 6 36 [0]),(2,6,0,.trq 8 43 [0]),(2,12,0,.trq 12 68 [0]),(2,13,0,.trq 14 75 [0]),(2,14,0,.trq 16 82 [0]),(2,17,0,.trq 18 118 [0]),(2,18,0,.trq 20 125 [0])]:=⟨⟩
end
end Go.Wk
