/- x -/
import Derived.Test.YtchnmobojdcikaaGreatRVaa
import Derived.Test.YtchnmobojdcikaaGreatRVao
import Derived.Test.YtchnmobojdcikaaGreatRVbd
import Derived.Test.YtchnmobojdcikaaGreatRWT
open Go.Proofs.Tryz renaming prog->J0
open Option renaming some->iW,none->iY
open Bool renaming true->iZ,false->ja
namespace Go.Wk
open Go Go.Proofs Go.Ab
set_option maxRecDepth 100000
set_option maxHeartbeats 4000000
section
attribute [local irreducible] RW CW DK OkL Ok yB yI xF xQ XS.post rng xV xC ixO zL yE yT yD zH GTo zR FnC FnK wA wN Kp Lk BsL BuL RpL Bk Lc JQ AK
instance t_cl:FI J0 232 (∀(a:SPr)(b:Int),FnK J0 232 [qPr a,I b] (fun r=>[I r]) (fun _=>[]) (yCt a b)):=⟨Tryz.call232,fun a b=>iM Tryz.func232⟩
instance t_bq:FI J0 136 (∀(a:SPr)(b:zB),FnK J0 136 [qPr a,wS b] (fun r=>[B r]) (fun _=>[]) (zN9 a b)):=⟨Tryz.call136,fun a b=>iM Tryz.func136⟩
end
end Go.Wk
