/- x -/
import Derived.Test.YtchnmobojdcikaaGreatVaw
import Derived.Test.YtchnmobojdcikaaGreatVax
import Derived.Test.YtchnmobojdcikaaGreatVay
import Derived.Test.YtchnmobojdcikaaGreatVaz
import Derived.Test.YtchnmobojdcikaaGreatWT
open Option renaming some→dS,none→dT
open Bool renaming true→dU,false→dV
namespace Go.Wk
open Go Go.Proofs Go.Ab
set_option maxRecDepth 100000
set_option maxHeartbeats 4000000
section
attribute [local irreducible] RW CW DK OkL Ok zU zY yO yZ XS.post rng xC yL ixO zL zX yM zV zE GTo zK FnC FnK xJ xQ Kp Lk BsL BuL RpL Bk Lc JQ AK
instance:HS Tryz.f238.8 [(1,6,0,.trf 129 0 9 [0,0]),(1,6,1,.trf 129 1 9 [1,0]),(1,6,2,.trf 129 2 9 [2,0])]:=⟨⟩
instance:HS Tryz.f127.8 [(1,6,0,.trf 17 0 8 [0,0]),(1,6,1,.trf 17 1 8 [1,0]),(1,6,2,.trf 17 2 8 [2,0])]:=⟨⟩
instance:HS Tryz.f32.8 [(1,6,0,.trf 18 0 17 [0,0]),(1,6,1,.trf 18 1 17 [1,0]),(1,6,2,.trf 18 2 17 [2,0])]:=⟨⟩
instance:HS Tryz.f92.8 [(2,2,0,.tr 5 11),(2,4,0,.tr 8 17),(0,30,0,.tr 25 8),(2,6,0,.tr 8 30)]:=⟨⟩
end
end Go.Wk
