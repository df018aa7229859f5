/- x -/
import Derived.Test.YtchnmobojdcikaaGreatVas
import Derived.Test.YtchnmobojdcikaaGreatVat
import Derived.Test.YtchnmobojdcikaaGreatVau
import Derived.Test.YtchnmobojdcikaaGreatWT
open Go.Proofs.Tryz renaming prog→J0
open Option renaming some→dS,none→dT
open Bool renaming true→dU,false→dV
namespace Go.Wk
open Go Go.Proofs Go.Ab
set_option maxRecDepth 100000
set_option maxHeartbeats 4000000
section
attribute [local irreducible] RW CW DK OkL Ok zU zY yO yZ XS.post rng xC yL ixO zL zX yM zV zE GTo zK FnC FnK xJ xQ Kp Lk BsL BuL RpL Bk Lc JQ AK
instance:HS Tryz.f6.8 [(2,11,0,.trq 9 47 [0]),(2,12,0,.trq 11 53 [0]),(1,13,0,.trf 60 2 59 [2,0])]:=⟨⟩
instance t_co:FI J0 6 (∀(a:List Int),FnK J0 6 [T.ro ((L 1 (IK .u8)) a)] (fun r=>[B r]) (fun _=>[]) (zXl a)):=⟨Tryz.call6,fun a=>iM Tryz.func6⟩
end
end Go.Wk
