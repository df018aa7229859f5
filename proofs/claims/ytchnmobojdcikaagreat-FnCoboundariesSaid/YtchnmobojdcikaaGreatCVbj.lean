/- x -/
import Derived.Test.YtchnmobojdcikaaGreatCVas
import Derived.Test.YtchnmobojdcikaaGreatCVbd
import Derived.Test.YtchnmobojdcikaaGreatCWT
open Go.Proofs.Tryz renaming prog→J0,call84→Ub
open Option renaming some→iz,none→iA
open Bool renaming true→iB,false→iC
namespace Go.Wk
open Go Go.Proofs Go.Ab
set_option maxRecDepth 100000
set_option maxHeartbeats 4000000
section
attribute [local irreducible] RW CW DK OkL Ok zV yA yW xK XS.post rng xN yP ixO zO yG yO yB zG GTo zP FnC FnK xQ wB Kp Lk BsL BuL RpL Bk Lc JQ AK
instance t_bf:FI J0 84 (∀(a:SPr),FnK J0 84 [qPr a] (fun r=>[B r]) (fun _=>[]) (zWs a)):=⟨Ub,fun a=>iM Tryz.func84⟩
end
end Go.Wk
