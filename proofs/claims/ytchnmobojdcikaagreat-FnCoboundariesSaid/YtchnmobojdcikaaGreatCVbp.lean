/- x -/
import Derived.Test.YtchnmobojdcikaaGreatCVav
import Derived.Test.YtchnmobojdcikaaGreatCVas
import Derived.Test.YtchnmobojdcikaaGreatCVbe
import Derived.Test.YtchnmobojdcikaaGreatCVbk
import Derived.Test.YtchnmobojdcikaaGreatCVbn
import Derived.Test.YtchnmobojdcikaaGreatCWT
open Go.Proofs.Tryz renaming prog→J0
open Option renaming some→iz,none→iA
open Bool renaming true→iB,false→iC
namespace Go.Wk
open Go Go.Proofs Go.Ab
set_option maxRecDepth 100000
set_option maxHeartbeats 4000000
section
attribute [local irreducible] RW CW DK OkL Ok zV yA yW xK XS.post rng xN yP ixO zO yG yO yB zG GTo zP FnC FnK xQ wB Kp Lk BsL BuL RpL Bk Lc JQ AK
instance(a:SPr)(b:zC)(c:List (List (List Int))):LH (R:=Int) (zU3 a b c) [0,1,2,15,16] [] (fun d=>[(17,I d)]) (.xs (.xe 0 [15,16] fun _=>[]) .xr):=⟨⟩
instance(a:SPr)(b:zC)(c:List (List (List Int))):LH (R:=Int) (zU4 a b c) [0,1,27,28] [] (fun d=>[(29,I d)]) (.xs (.xe 2 [0,1,27,28] fun _=>[]) .xr):=⟨⟩
instance t_P:FI J0 99 (∀(a:SPr)(b:zC)(c:List (List (List Int))),FnK J0 99 [T.ro ((Pt vE) a),T.ro ((Pt xV) b),T.ro (lC c)] (fun r=>[I r]) (fun _=>[]) (f_P a b c)):=⟨Tryz.call99,fun a b c=>iM Tryz.func99⟩
instance t_by:FI J0 93 (∀(a:SPr)(b:zC)(c:List (List Int)),FnK J0 93 [qPr a,vC b,T.ro (lM c)] (fun r:(List (List Int))×Int=>[lM r.1,I r.2]) (fun _=>[]) (zOs a b c)):=⟨Tryz.call93,fun a b c=>iM Tryz.func93⟩
end
end Go.Wk
