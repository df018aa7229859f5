/- x -/
import Derived.Test.YtchnmobojdcikaaGreatQVaa
import Derived.Test.YtchnmobojdcikaaGreatQVar
import Derived.Test.YtchnmobojdcikaaGreatQVba
import Derived.Test.YtchnmobojdcikaaGreatQWT
open Go.Proofs.Tryz renaming prog→J0
open Option renaming some→dq,none→dt
open Bool renaming true→du,false→dv
namespace Go.Wk
open Go Go.Proofs Go.Ab
set_option maxRecDepth 100000
set_option maxHeartbeats 4000000
section
attribute [local irreducible] RW CW DK OkL Ok zS zV yQ xI XS.post rng xL yO ixO zP zU yT zZ zG GTo zM FnC FnK xK xN Kp Lk BsL BuL RpL Bk Lc JQ AK
instance t_b0:FI J0 232 (∀(a:SPr)(b:Int),FnK J0 232 [qPr a,I b] (fun r=>[I r]) (fun _=>[]) (zXc a b)):=⟨Tryz.call232,fun a b=>iM Tryz.func232⟩
instance t_aw:FI J0 136 (∀(a:SPr)(b:zC),FnK J0 136 [qPr a,xQ b] (fun r=>[B r]) (fun _=>[]) (zFs a b)):=⟨Tryz.call136,fun a b=>iM Tryz.func136⟩
end
end Go.Wk
