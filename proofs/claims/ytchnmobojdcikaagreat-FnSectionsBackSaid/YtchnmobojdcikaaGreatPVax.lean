/- x -/
import Derived.Test.YtchnmobojdcikaaGreatPVac
import Derived.Test.YtchnmobojdcikaaGreatPVai
import Derived.Test.YtchnmobojdcikaaGreatPWT
open Go.Proofs.Tryz renaming prog→J0
open Option renaming some→aB,none→aC
open Bool renaming true→aD,false→aE
namespace Go.Wk
open Go Go.Proofs Go.Ab
set_option maxRecDepth 100000
set_option maxHeartbeats 4000000
section
attribute [local irreducible] RW CW DK OkL Ok yA yB xE xH XS.post rng xK yV ixO zN yD xC zU zC GTo zO FnC FnK xV wG Kp Lk BsL BuL RpL Bk Lc JQ AK
instance:HS Tryz.f223.8 [(1,4,0,.trf 30 0 5 [0,0]),(1,4,1,.trf 30 1 5 [1,0]),(1,4,2,.trf 30 2 5 [2,0]),(1,4,3,.trf 48 0 5 [0,0]),(1,4,4,.trf 48 1 5 [1,0]),(1,4,5,.trf 48 2 5 [2,0]),(1,4,6,.trf 78 0 5 [0,0]),(1,4,7,.trf 78 1 5 [1,0]),(1,4,8,.trf 78 2 5 [2,0])]:=⟨⟩
instance t_bk:FI J0 223 (∀(a:zH)(b:SPr),FnK J0 223 [T.ptr (uJ a),qPr b] (fun r=>[xT r.1]) (fun r=>[(0,(Pt (fun x=>T.agg [(Ro (L 1 (IK .u8))) x.code,I x.at_,I x.seed])) r.2)]) (zQh a b)):=⟨Tryz.call223,fun a b=>iM Tryz.func223⟩
end
end Go.Wk
