/- x -/
import Derived.Test.YtchnmobojdcikaaGreatPVac
import Derived.Test.YtchnmobojdcikaaGreatPVah
import Derived.Test.YtchnmobojdcikaaGreatPVav
import Derived.Test.YtchnmobojdcikaaGreatPVaw
import Derived.Test.YtchnmobojdcikaaGreatPVbf
import Derived.Test.YtchnmobojdcikaaGreatPVbh
import Derived.Test.YtchnmobojdcikaaGreatPVbi
import Derived.Test.YtchnmobojdcikaaGreatPVbk
import Derived.Test.YtchnmobojdcikaaGreatPVbm
import Derived.Test.YtchnmobojdcikaaGreatPWT
open Go.Proofs.Tryz renaming prog→J0
open Option renaming some→aB,none→aC
open Bool renaming true→aD,false→aE
namespace Go.Wk
open Go Go.Proofs Go.Ab
set_option maxRecDepth 100000
set_option maxHeartbeats 4000000
section
attribute [local irreducible] RW CW DK OkL Ok yA yB xE xH XS.post rng xK yV ixO zN yD xC zU zC GTo zO FnC FnK xV wG Kp Lk BsL BuL RpL Bk Lc JQ AK
instance:HS Tryz.f4.8 [(1,5,0,.trf 30 0 29 [0,0]),(1,5,1,.trf 30 1 29 [1,0]),(1,5,2,.trf 30 2 29 [2,0]),(1,6,0,.trf 31 2 29 [2,1]),(2,5,0,.trq 7 29 [2]),(1,9,0,.trf 38 0 37 [0,0]),(1,9,1,.trf 38 1 37 [1,0]),(1,9,2,.trf 38 2 37 [2,0]),(1,10,0,.trf 39 2 37 [2,1]),(2,6,0,.trq 11 37 [2]),(1,17,0,.trf 87 0 86 [0,0]),(1,17,1,.trf 87 1 86 [1,0]),(1,17,2,.trf 87 2 86 [2,0])]:=⟨⟩
instance t_bm:FI J0 4 (∀(a:List Int),FnK J0 4 [T.ro ((L 1 (IK .u8)) a)] (fun r=>[B r]) (fun _=>[]) (zSr a)):=⟨Tryz.call4,fun a=>iM Tryz.func4⟩
end
end Go.Wk
