/- x -/
import Derived.Test.YtchnmobojdcikaaGreatPVad
import Derived.Test.YtchnmobojdcikaaGreatPVas
import Derived.Test.YtchnmobojdcikaaGreatPVaw
import Derived.Test.YtchnmobojdcikaaGreatPVbe
import Derived.Test.YtchnmobojdcikaaGreatPWT
open Go.Proofs.Tryz renaming prog→J0
open Option renaming some→aB,none→aC
open Bool renaming true→aD,false→aE
namespace Go.Wk
open Go Go.Proofs Go.Ab
set_option maxRecDepth 100000
set_option maxHeartbeats 4000000
section
attribute [local irreducible] RW CW DK OkL Ok yA yB xE xH XS.post rng xK yV ixO zN yD xC zU zC GTo zO FnC FnK xV wG Kp Lk BsL BuL RpL Bk Lc JQ AK
instance:HS Tryz.f25.8 [(1,8,0,.trf 32 0 31 [0,0]),(1,8,1,.trf 32 1 31 [1,0]),(1,8,2,.trf 32 2 31 [2,0]),(1,9,0,.trf 33 2 31 [2,1]),(2,8,0,.trq 10 31 [2]),(1,4,0,.trf 35 0 8 [0,0]),(1,4,1,.trf 35 1 8 [1,0]),(1,4,2,.trf 35 2 8 [2,0]),(1,5,0,.trf 36 2 9 [2,0])]:=⟨⟩
instance t_a9:FI J0 25 (∀(a:SPr)(b:Int),FnK J0 25 [qPr a,I b] (fun r:SPr×zG×(List (List Int))×Int=>[xT r.1,xU r.2.1,lM r.2.2.1,I r.2.2.2]) (fun _=>[]) (zNj a b)):=⟨Tryz.call25,fun a b=>iM Tryz.func25⟩
end
end Go.Wk
