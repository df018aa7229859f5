/- x -/
import Derived.Test.YtchnmobojdcikaaGreatVbg
import Derived.Test.YtchnmobojdcikaaGreatVbh
import Derived.Test.YtchnmobojdcikaaGreatWT
open Option renaming some→dS,none→dT
open Bool renaming true→dU,false→dV
namespace Go.Wk
open Go Go.Proofs Go.Ab
set_option maxRecDepth 100000
set_option maxHeartbeats 4000000
section
attribute [local irreducible] RW CW DK OkL Ok zU zY yO yZ XS.post rng xC yL ixO zL zX yM zV zE GTo zK FnC FnK xJ xQ Kp Lk BsL BuL RpL Bk Lc JQ AK
instance:HS Tryz.f3.8 [(2,11,0,.trq 11 68 [0]),(2,12,0,.trq 13 75 [0]),(2,13,0,.trq 15 82 [0]),(2,14,0,.trq 17 89 [0]),(2,18,0,.trq 21 130 [0]),(2,19,0,.trq 23 138 [0]),(2,20,0,.trq 25 146 [0])]:=⟨⟩
end
end Go.Wk

namespace Go.Wk
open Go Go.Proofs Go.Ab
set_option maxRecDepth 100000
set_option maxHeartbeats 4000000
section
attribute [local irreducible] RW CW DK OkL Ok zU zY yO yZ XS.post rng xC yL ixO zL zX yM zV zE GTo zK FnC FnK xJ xQ Kp Lk BsL BuL RpL Bk Lc JQ AK
instance:HS Tryz.f11.8 [(2,4,0,.trq 5 19 [2]),(1,11,0,.trf 58 0 57 [0,0]),(1,11,1,.trf 58 1 57 [1,0]),(1,11,2,.trf 58 2 57 [2,0]),(1,13,0,.trf 65 0 64 [0,0]),(1,13,1,.trf 65 1 64 [1,0]),(1,13,2,.trf 65 2 64 [2,0])]:=⟨⟩
end
end Go.Wk

namespace Go.Wk
open Go Go.Proofs Go.Ab
set_option maxRecDepth 100000
set_option maxHeartbeats 4000000
section
attribute [local irreducible] RW CW DK OkL Ok zU zY yO yZ XS.post rng xC yL ixO zL zX yM zV zE GTo zK FnC FnK xJ xQ Kp Lk BsL BuL RpL Bk Lc JQ AK
instance:HS Tryz.f12.8 [(2,4,0,.trq 5 18 [2]),(1,6,0,.trf 27 0 26 [0,0]),(1,6,1,.trf 27 1 26 [1,0]),(1,6,2,.trf 27 2 26 [2,0]),(1,8,0,.trf 34 0 33 [0,0]),(1,8,1,.trf 34 1 33 [1,0]),(1,8,2,.trf 34 2 33 [2,0]),(1,10,0,.trf 53 0 52 [0,0]),(1,10,1,.trf 53 1 52 [1,0]),(1,10,2,.trf 53 2 52 [2,0]),(1,11,0,.trf 54 2 52 [2,1]),(2,11,0,.trq 12 52 [2])]:=⟨⟩
end
end Go.Wk
