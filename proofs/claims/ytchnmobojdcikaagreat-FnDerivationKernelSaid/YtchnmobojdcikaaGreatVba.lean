/- x -/
import Derived.Test.YtchnmobojdcikaaGreatVaw
import Derived.Test.YtchnmobojdcikaaGreatVax
import Derived.Test.YtchnmobojdcikaaGreatVay
import Derived.Test.YtchnmobojdcikaaGreatVaz
import Derived.Test.YtchnmobojdcikaaGreatWT
open Option renaming some→dS,none→dT
open Bool renaming true→dU,false→dV
namespace Go.Wk
open Go Go.Proofs Go.Ab
set_option maxRecDepth 100000
set_option maxHeartbeats 4000000
section
attribute [local irreducible] RW CW DK OkL Ok zU zY yO yZ XS.post rng xC yL ixO zL zX yM zV zE GTo zK FnC FnK xJ xQ Kp Lk BsL BuL RpL Bk Lc JQ AK
instance:HS Tryz.f325.8 [(0,53,0,.trq 40 7 [0,0])]:=⟨⟩
end
section
attribute [local irreducible] RW CW DK OkL Ok zU zY yO yZ XS.post rng xC yL ixO zL zX yM zV zE GTo zK FnC FnK xJ xQ Kp Lk BsL BuL RpL Bk Lc JQ AK
instance:HS Tryz.f302.8 [(2,3,0,.tr 6 23),(0,63,0,.tr 52 6),(2,12,0,.tr 6 63),(0,102,0,.tr 86 6),(0,115,0,.tr 106 6),(2,20,0,.tr 6 115),(1,17,0,.fi 9 16),(1,17,1,.resf 129 0 16 [0,0]),(1,17,2,.resf 129 1 16 [1,0]),(0,160,0,.tr 144 6)]:=⟨⟩
end
end Go.Wk
