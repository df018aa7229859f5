/- x -/
import Derived.Test.YtchnmobojdcikaaGreatVba
import Derived.Test.YtchnmobojdcikaaGreatVbb
import Derived.Test.YtchnmobojdcikaaGreatVbc
import Derived.Test.YtchnmobojdcikaaGreatVbd
import Derived.Test.YtchnmobojdcikaaGreatWT
open Option renaming some→dS,none→dT
open Bool renaming true→dU,false→dV
namespace Go.Wk
open Go Go.Proofs Go.Ab
set_option maxRecDepth 100000
set_option maxHeartbeats 4000000
section
attribute [local irreducible] RW CW DK OkL Ok zU zY yO yZ XS.post rng xC yL ixO zL zX yM zV zE GTo zK FnC FnK xJ xQ Kp Lk BsL BuL RpL Bk Lc JQ AK
instance:HS Tryz.f271.8 [(2,2,0,.tr 3 5),(0,18,0,.tr 14 3),(2,4,0,.tr 3 18)]:=⟨⟩
instance:HS Tryz.f286.8 [(2,8,0,.tr 9 35),(0,58,0,.tr 57 9),(0,59,0,.trq 56 7 [2,0]),(2,14,0,.tr 11 62),(2,14,1,.fz 11),(2,15,0,.tr 12 63),(2,19,0,.tr 14 69),(0,91,0,.tr 76 14),(0,94,0,.tr 93 14),(0,95,0,.tr 92 12),(2,17,0,.tr 12 95)]:=⟨⟩
instance:HS Tryz.f216.8 [(2,2,0,.tr 7 15),(2,3,0,.tr 8 18)]:=⟨⟩
instance:HS Tryz.f195.8 [(2,4,0,.tr 7 27),(0,39,0,.tr 34 7),(2,6,0,.tr 7 39),(2,11,0,.tr 9 46),(2,15,0,.tr 11 56),(2,17,0,.tr 11 66),(0,69,0,.tr 68 11),(0,70,0,.tr 67 9),(2,13,0,.tr 9 70),(2,20,0,.tr 12 80),(0,89,0,.tr 84 12),(2,22,0,.tr 12 89)]:=⟨⟩
end
end Go.Wk
