/- x -/
import Derived.Test.YtchnmobojdcikaaGreatRVav
import Derived.Test.YtchnmobojdcikaaGreatRVbg
import Derived.Test.YtchnmobojdcikaaGreatRVbl
import Derived.Test.YtchnmobojdcikaaGreatRWT
import Derived.Test.YtchnmobojdcikaaGreatRVad
import Derived.Test.YtchnmobojdcikaaGreatRVah
import Derived.Test.YtchnmobojdcikaaGreatRVbj
open Go.Proofs.Tryz renaming prog->J0
open Option renaming some->iW,none->iY
open Bool renaming true->iZ,false->ja
namespace Go.Wk
open Go Go.Proofs Go.Ab
set_option maxRecDepth 100000
set_option maxHeartbeats 4000000
section
attribute [local irreducible] RW CW DK OkL Ok yB yI xF xQ XS.post rng xV xC ixO zL yE yT yD zH GTo zR FnC FnK wA wN Kp Lk BsL BuL RpL Bk Lc JQ AK
instance t_aZ:FI J0 102 (∀(a:SPr)(b:zB)(c:List (List Int))(d:List (List Int)),FnK J0 102 [qPr a,wS b,T.ro (lM c),T.ro (lM d)] (fun r=>[I r]) (fun _=>[]) (zJD a b c d)):=⟨Tryz.call102,fun a b c d=>iM Tryz.func102⟩
instance t_bK:FI J0 18 (∀(a:SPr)(b:zB)(c:List (List Int))(d:List (List Int)),FnK J0 18 [qPr a,wS b,T.ro (lM c),T.ro (lM d)] (fun r=>[B r.1,I r.2]) (fun _=>[]) (zS7 a b c d)):=⟨Tryz.call18,fun a b c d=>iM Tryz.func18⟩
instance t_bY:FI J0 20 (∀(a:SPr)(b:zB)(c:List (List Int)),FnK J0 20 [qPr a,wS b,T.ro (lM c)] (fun r:(List (List Int))×Int=>[lM r.1,I r.2]) (fun _=>[]) (zWw a b c)):=⟨Tryz.call20,fun a b c=>iM Tryz.func20⟩
instance t_ch:FI J0 23 (∀(a:SPr)(b:zB)(c:List (List Int))(d:List (List Int)),FnK J0 23 [qPr a,wS b,T.ro (lM c),T.ro (lM d)] (fun r:(List (List Int))×Int=>[lM r.1,I r.2]) (fun _=>[]) (zYJ a b c d)):=⟨Tryz.call23,fun a b c d=>iM Tryz.func23⟩
end
end Go.Wk
