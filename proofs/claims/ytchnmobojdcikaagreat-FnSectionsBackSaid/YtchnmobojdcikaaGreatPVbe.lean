/- x -/
import Derived.Test.YtchnmobojdcikaaGreatPVau
import Derived.Test.YtchnmobojdcikaaGreatPVav
import Derived.Test.YtchnmobojdcikaaGreatPVbd
import Derived.Test.YtchnmobojdcikaaGreatPWT
open Go.Proofs.Tryz renaming prog→J0,call84→Gu
open Option renaming some→aB,none→aC
open Bool renaming true→aD,false→aE
namespace Go.Wk
open Go Go.Proofs Go.Ab
set_option maxRecDepth 100000
set_option maxHeartbeats 4000000
section
attribute [local irreducible] RW CW DK OkL Ok yA yB xE xH XS.post rng xK yV ixO zN yD xC zU zC GTo zO FnC FnK xV wG Kp Lk BsL BuL RpL Bk Lc JQ AK
instance t_ax:FI J0 84 (∀(a:SPr),FnK J0 84 [qPr a] (fun r=>[B r]) (fun _=>[]) (zPx a)):=⟨Gu,fun a=>iM Tryz.func84⟩
instance t_bi:FI J0 126 (∀(a:SPr)(b:zG)(c:List (List Int)),FnK J0 126 [T.ro ((Pt xT) a),T.ro ((Pt xU) b),T.ro (lM c)] (fun r=>[B r]) (fun _=>[]) (zPK a b c)):=⟨Tryz.call126,fun a b c=>iM Tryz.func126⟩
end
end Go.Wk
