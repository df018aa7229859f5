/- x -/
import Derived.Test.YtchnmobojdcikaaGreatRVaa
import Derived.Test.YtchnmobojdcikaaGreatRVad
import Derived.Test.YtchnmobojdcikaaGreatRVaf
import Derived.Test.YtchnmobojdcikaaGreatRVag
import Derived.Test.YtchnmobojdcikaaGreatRVah
import Derived.Test.YtchnmobojdcikaaGreatRVan
import Derived.Test.YtchnmobojdcikaaGreatRVaw
import Derived.Test.YtchnmobojdcikaaGreatRVbb
import Derived.Test.YtchnmobojdcikaaGreatRVbc
import Derived.Test.YtchnmobojdcikaaGreatRVbi
import Derived.Test.YtchnmobojdcikaaGreatRWT
open Go.Proofs.Tryz renaming prog->J0
open Option renaming some->iW,none->iY
open Bool renaming true->iZ,false->ja
namespace Go.Wk
open Go Go.Proofs Go.Ab
set_option maxRecDepth 100000
set_option maxHeartbeats 4000000
section
attribute [local irreducible] RW CW DK OkL Ok yB yI xF xQ XS.post rng xV xC ixO zL yE yT yD zH GTo zR FnC FnK wA wN Kp Lk BsL BuL RpL Bk Lc JQ AK
instance:HS Tryz.f100.8 [(2,4,0,.tr 8 19),(0,35,0,.fz 34),(2,6,0,.trq 9 37 [0])]:=⟨⟩
instance t_b7:FI J0 100 (∀(a:SPr)(b:zB)(c:List Int),FnK J0 100 [T.ro ((Pt vQ) a),T.ro ((Pt wC) b),T.ro (lV c)] (fun r:(List (List Int))×Bool=>[lM r.1,B r.2]) (fun _=>[]) (zYK a b c)):=⟨Tryz.call100,fun a b c=>iM Tryz.func100⟩
instance t_cn:FI J0 103 (∀(a:SPr)(b:zB)(c:List (List Int))(d:List (List Int)),FnK J0 103 [qPr a,wS b,T.ro (lM c),T.ro (lM d)] (fun r=>[B r]) (fun _=>[]) (yCo a b c d)):=⟨Tryz.call103,fun a b c d=>iM Tryz.func103⟩
instance t_bW:FI J0 104 (∀(a:SPr)(b:zB)(c:List Int),FnK J0 104 [T.ro ((Pt vQ) a),T.ro ((Pt wC) b),T.ro (lV c)] (fun r:(List (List Int))=>[lM r]) (fun _=>[]) (zWx a b c)):=⟨Tryz.call104,fun a b c=>iM Tryz.func104⟩
instance t_bV:FI J0 106 (∀(a:SPr)(b:zB)(c:List Int),FnK J0 106 [qPr a,wS b,T.ro (lV c)] (fun r:(List (List Int))=>[lM r]) (fun _=>[]) (zWv a b c)):=⟨Tryz.call106,fun a b c=>iM Tryz.func106⟩
end
end Go.Wk
