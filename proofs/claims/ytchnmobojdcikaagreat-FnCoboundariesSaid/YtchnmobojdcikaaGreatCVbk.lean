/- x -/
import Derived.Test.YtchnmobojdcikaaGreatCVax
import Derived.Test.YtchnmobojdcikaaGreatCVbd
import Derived.Test.YtchnmobojdcikaaGreatCWT
open Go.Proofs.Tryz renaming prog→J0
open Option renaming some→iz,none→iA
open Bool renaming true→iB,false→iC
namespace Go.Wk
open Go Go.Proofs Go.Ab
set_option maxRecDepth 100000
set_option maxHeartbeats 4000000
section
attribute [local irreducible] RW CW DK OkL Ok zV yA yW xK XS.post rng xN yP ixO zO yG yO yB zG GTo zP FnC FnK xQ wB Kp Lk BsL BuL RpL Bk Lc JQ AK
instance t_bN:FI J0 126 (∀(a:SPr)(b:zC)(c:List (List Int)),FnK J0 126 [T.ro ((Pt vE) a),T.ro ((Pt xV) b),T.ro (lM c)] (fun r=>[B r]) (fun _=>[]) (zUv a b c)):=⟨Tryz.call126,fun a b c=>iM Tryz.func126⟩
end
end Go.Wk
