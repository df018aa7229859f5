/- x -/
import Derived.Test.YtchnmobojdcikaaGreatPVac
import Derived.Test.YtchnmobojdcikaaGreatPVad
import Derived.Test.YtchnmobojdcikaaGreatPVao
import Derived.Test.YtchnmobojdcikaaGreatPVbl
import Derived.Test.YtchnmobojdcikaaGreatPWT
open Go.Proofs.Tryz renaming prog→J0
open Option renaming some→aB,none→aC
open Bool renaming true→aD,false→aE
namespace Go.Wk
open Go Go.Proofs Go.Ab
set_option maxRecDepth 100000
set_option maxHeartbeats 4000000
section
attribute [local irreducible] RW CW DK OkL Ok yA yB xE xH XS.post rng xK yV ixO zN yD xC zU zC GTo zO FnC FnK xV wG Kp Lk BsL BuL RpL Bk Lc JQ AK
instance:HS Tryz.f24.8 [(2,2,0,.tr 4 8)]:=⟨⟩
instance t_bE:FI J0 24 (∀(a:List Int),FnK J0 24 [T.ro ((L 1 (IK .u8)) a)] (fun r=>[(fun x=>T.agg [(Ro lV) x.zA,(Ro lM) x.zF,(Ro lC) x.zB]) r.1,I r.2]) (fun _=>[]) (zU9 a)):=⟨Tryz.call24,fun a=>iM Tryz.func24⟩
end
end Go.Wk
