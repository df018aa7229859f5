/- x -/
import Derived.Test.YtchnmobojdcikaaGreatPVaj
import Derived.Test.YtchnmobojdcikaaGreatPVaz
import Derived.Test.YtchnmobojdcikaaGreatPWT
open Go.Proofs.Tryz renaming prog→J0
open Option renaming some→aB,none→aC
open Bool renaming true→aD,false→aE
namespace Go.Wk
open Go Go.Proofs Go.Ab
set_option maxRecDepth 100000
set_option maxHeartbeats 4000000
section
attribute [local irreducible] RW CW DK OkL Ok yA yB xE xH XS.post rng xK yV ixO zN yD xC zU zC GTo zO FnC FnK xV wG Kp Lk BsL BuL RpL Bk Lc JQ AK
instance t_aR:FI J0 117 (∀(a:SPr),FnK J0 117 [qPr a] (fun r=>[B r]) (fun _=>[]) (zKw a)):=⟨Tryz.call117,fun a=>iM Tryz.func117⟩
end
end Go.Wk
