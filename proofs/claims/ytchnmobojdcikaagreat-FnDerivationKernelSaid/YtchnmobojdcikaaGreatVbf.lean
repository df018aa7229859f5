/- x -/
import Derived.Test.YtchnmobojdcikaaGreatVba
import Derived.Test.YtchnmobojdcikaaGreatVbb
import Derived.Test.YtchnmobojdcikaaGreatVbc
import Derived.Test.YtchnmobojdcikaaGreatVbd
import Derived.Test.YtchnmobojdcikaaGreatWT
open Go.Proofs.Tryz renaming prog→J0
open Option renaming some→dS,none→dT
open Bool renaming true→dU,false→dV
namespace Go.Wk
open Go Go.Proofs Go.Ab
set_option maxRecDepth 100000
set_option maxHeartbeats 4000000
section
attribute [local irreducible] RW CW DK OkL Ok zU zY yO yZ XS.post rng xC yL ixO zL zX yM zV zE GTo zK FnC FnK xJ xQ Kp Lk BsL BuL RpL Bk Lc JQ AK
instance:HS Tryz.f198.8 [(1,6,0,.trf 17 0 8 [0,0]),(1,6,1,.trf 17 1 8 [1,0]),(1,6,2,.trf 17 2 8 [2,0])]:=⟨⟩
instance:HS Tryz.f95.8 [(2,5,0,.trq 9 20 [0])]:=⟨⟩
end
end Go.Wk

namespace Go.Wk
open Go Go.Proofs Go.Ab
set_option maxRecDepth 100000
set_option maxHeartbeats 4000000
section
attribute [local irreducible] RW CW DK OkL Ok zU zY yO yZ XS.post rng xC yL ixO zL zX yM zV zE GTo zK FnC FnK xJ xQ Kp Lk BsL BuL RpL Bk Lc JQ AK
instance:HS Tryz.f10.8 [(2,4,0,.trq 5 31 [2]),(2,5,0,.trq 6 39 [0]),(2,6,0,.trq 8 46 [0]),(2,11,0,.tr 10 61),(2,12,0,.tr 11 62),(0,75,0,.tr 69 11),(2,14,0,.tr 11 75),(2,17,0,.trq 13 80 [0]),(2,18,0,.trq 15 87 [0]),(2,21,0,.trq 17 110 [0]),(2,22,0,.trq 19 117 [0]),(2,23,0,.trq 21 124 [0]),(2,26,0,.trq 23 153 [0])]:=⟨⟩
instance(c:SPr×zB×(List (List Int))):LH (R:=Bool) (zPY c) [3,4,5,8] [] (fun a=>[(10,T.ptr (T.agg [T.ro ((L 1 (IK .u8)) a.1),I a.2.1,(IK .u64) a.2.2.1])),(11,L 1 I a.2.2.2.1),(12,I a.2.2.2.2)]) (.xe 0 [] fun b=>[(11,L 1 I b)]):=⟨⟩
instance t_bt:FI J0 10 (∀(a:List Int),FnK J0 10 [T.ro ((L 1 (IK .u8)) a)] (fun r=>[B r]) (fun _=>[]) (zXq a)):=⟨Tryz.call10,fun a=>iM Tryz.func10⟩
end
end Go.Wk

namespace Go.Wk
open Go Go.Proofs Go.Ab
set_option maxRecDepth 100000
set_option maxHeartbeats 4000000
section
attribute [local irreducible] RW CW DK OkL Ok zU zY yO yZ XS.post rng xC yL ixO zL zX yM zV zE GTo zK FnC FnK xJ xQ Kp Lk BsL BuL RpL Bk Lc JQ AK
instance:HS Tryz.f22.8 [(2,5,0,.tr 11 20)]:=⟨⟩
instance:HS Tryz.f215.8 [(2,2,0,.tr 8 12),(2,3,0,.trq 9 28 [0])]:=⟨⟩
end
end Go.Wk
