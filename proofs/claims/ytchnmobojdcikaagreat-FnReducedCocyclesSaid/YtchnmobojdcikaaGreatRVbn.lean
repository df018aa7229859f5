/- x -/
import Derived.Test.YtchnmobojdcikaaGreatRVbb
import Derived.Test.YtchnmobojdcikaaGreatRVbf
import Derived.Test.YtchnmobojdcikaaGreatRVbm
import Derived.Test.YtchnmobojdcikaaGreatRWT
import Derived.Test.YtchnmobojdcikaaGreatRVag
import Derived.Test.YtchnmobojdcikaaGreatRVah
import Derived.Test.YtchnmobojdcikaaGreatRVaw
import Derived.Test.YtchnmobojdcikaaGreatRVbj
open Go.Proofs.Tryz renaming prog->J0
open Option renaming some->iW,none->iY
open Bool renaming true->iZ,false->ja
namespace Go.Wk
open Go Go.Proofs Go.Ab
set_option maxRecDepth 100000
set_option maxHeartbeats 4000000
section
attribute [local irreducible] RW CW DK OkL Ok yB yI xF xQ XS.post rng xV xC ixO zL yE yT yD zH GTo zR FnC FnK wA wN Kp Lk BsL BuL RpL Bk Lc JQ AK
instance(a:SPr)(b:zB)(c:List (List (List Int))):LH (R:=Int) (zWt a b c) [0,1,2,15,16] [] (fun d=>[(17,I d)]) (.xs (.xe 0 [15,16] fun _=>[]) .xr):=⟨⟩
instance(a:SPr)(b:zB)(c:List (List (List Int))):LH (R:=Int) (zWu a b c) [0,1,27,28] [] (fun d=>[(29,I d)]) (.xs (.xe 2 [0,1,27,28] fun _=>[]) .xr):=⟨⟩
instance t_S:FI J0 99 (∀(a:SPr)(b:zB)(c:List (List (List Int))),FnK J0 99 [T.ro ((Pt vQ) a),T.ro ((Pt wC) b),T.ro (lC c)] (fun r=>[I r]) (fun _=>[]) (f_S a b c)):=⟨Tryz.call99,fun a b c=>iM Tryz.func99⟩
instance t_bG:FI J0 17 (∀(a:SPr)(b:zB)(c:List (List Int))(d:List (List Int)),FnK J0 17 [qPr a,wS b,T.ro (lM c),T.ro (lM d)] (fun r=>[B r.1,I r.2]) (fun _=>[]) (zP4 a b c d)):=⟨Tryz.call17,fun a b c d=>iM Tryz.func17⟩
instance t_bZ:FI J0 19 (∀(a:SPr)(b:zB)(c:List (List Int)),FnK J0 19 [qPr a,wS b,T.ro (lM c)] (fun r:(List (List Int))×Int=>[lM r.1,I r.2]) (fun _=>[]) (zWy a b c)):=⟨Tryz.call19,fun a b c=>iM Tryz.func19⟩
instance:HS Tryz.f22.8 [(2,5,0,.tr 11 20)]:=⟨⟩
instance t_b0:FI J0 22 (∀(a:SPr)(b:zB)(c:List (List Int))(d:List (List Int)),FnK J0 22 [qPr a,wS b,T.ro (lM c),T.ro (lM d)] (fun r:(List (List Int))×Int=>[lM r.1,I r.2]) (fun _=>[]) (zWz a b c d)):=⟨Tryz.call22,fun a b c d=>iM Tryz.func22⟩
end
end Go.Wk
