/- x -/
import Derived.Test.YtchnmobojdcikaaGreatPVaa
import Derived.Test.YtchnmobojdcikaaGreatPVac
import Derived.Test.YtchnmobojdcikaaGreatPVae
import Derived.Test.YtchnmobojdcikaaGreatPVaf
import Derived.Test.YtchnmobojdcikaaGreatPVah
import Derived.Test.YtchnmobojdcikaaGreatPVai
import Derived.Test.YtchnmobojdcikaaGreatPWT
open Go.Proofs.Tryz renaming prog→J0
open Option renaming some→aB,none→aC
open Bool renaming true→aD,false→aE
namespace Go.Wk
open Go Go.Proofs Go.Ab
set_option maxRecDepth 100000
set_option maxHeartbeats 4000000
section
attribute [local irreducible] RW CW DK OkL Ok yA yB xE xH XS.post rng xK yV ixO zN yD xC zU zC GTo zO FnC FnK xV wG Kp Lk BsL BuL RpL Bk Lc JQ AK
instance:HS Tryz.f222.8 [(0,22,0,.trq 20 5 [0,0]),(1,4,0,.trf 91 0 5 [0,0]),(1,4,1,.trf 91 1 5 [1,0]),(1,4,2,.trf 91 2 5 [2,0]),(0,34,0,.fz 33)]:=⟨⟩
instance t_bu:FI J0 222 (∀(a:zH)(b:SPr),FnK J0 222 [T.ptr (uJ a),qPr b] (fun r=>[xT r.1]) (fun r=>[(0,(Pt (fun x=>T.agg [(Ro (L 1 (IK .u8))) x.code,I x.at_,I x.seed])) r.2)]) (zSm a b)):=⟨Tryz.call222,fun a b=>iM Tryz.func222⟩
end
end Go.Wk
