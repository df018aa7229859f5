/- x -/
import Derived.Test.YtchnmobojdcikaaGreatCVaw
import Derived.Test.YtchnmobojdcikaaGreatCVbg
import Derived.Test.YtchnmobojdcikaaGreatCVbi
import Derived.Test.YtchnmobojdcikaaGreatCWT
import Derived.Test.YtchnmobojdcikaaGreatCVad
import Derived.Test.YtchnmobojdcikaaGreatCVak
import Derived.Test.YtchnmobojdcikaaGreatCVap
import Derived.Test.YtchnmobojdcikaaGreatCVbm
open Go.Proofs.Tryz renaming prog→J0
open Option renaming some→iz,none→iA
open Bool renaming true→iB,false→iC
namespace Go.Wk
open Go Go.Proofs Go.Ab
set_option maxRecDepth 100000
set_option maxHeartbeats 4000000
section
attribute [local irreducible] RW CW DK OkL Ok zV yA yW xK XS.post rng xN yP ixO zO yG yO yB zG GTo zP FnC FnK xQ wB Kp Lk BsL BuL RpL Bk Lc JQ AK
instance t_bu:FI J0 102 (∀(a:SPr)(b:zC)(c:List (List Int))(d:List (List Int)),FnK J0 102 [qPr a,vC b,T.ro (lM c),T.ro (lM d)] (fun r=>[I r]) (fun _=>[]) (zOo a b c d)):=⟨Tryz.call102,fun a b c d=>iM Tryz.func102⟩
end
end Go.Wk

namespace Go.Wk
open Go Go.Proofs Go.Ab
set_option maxRecDepth 100000
set_option maxHeartbeats 4000000
section
attribute [local irreducible] RW CW DK OkL Ok zV yA yW xK XS.post rng xN yP ixO zO yG yO yB zG GTo zP FnC FnK xQ wB Kp Lk BsL BuL RpL Bk Lc JQ AK
instance:HS Tryz.f215.8 [(2,2,0,.tr 8 12),(2,3,0,.trq 9 28 [0])]:=⟨⟩
instance t_bZ:FI J0 215 (∀(a:SPr)(b:zC)(c:List (List Int)),FnK J0 215 [qPr a,vC b,T.ro (lM c)] (fun r:(List (List Int))×Bool=>[lM r.1,B r.2]) (fun _=>[]) (zWH a b c)):=⟨Tryz.call215,fun a b c=>iM Tryz.func215⟩
end
end Go.Wk

namespace Go.Wk
open Go Go.Proofs Go.Ab
set_option maxRecDepth 100000
set_option maxHeartbeats 4000000
section
attribute [local irreducible] RW CW DK OkL Ok zV yA yW xK XS.post rng xN yP ixO zO yG yO yB zG GTo zP FnC FnK xQ wB Kp Lk BsL BuL RpL Bk Lc JQ AK
instance:HS Tryz.f96.8 [(2,5,0,.trq 9 23 [0])]:=⟨⟩
instance t_b7:FI J0 96 (∀(a:SPr)(b:zC)(c:List (List Int)),FnK J0 96 [qPr a,vC b,T.ro (lM c)] (fun r:(List (List Int))×Int=>[lM r.1,I r.2]) (fun _=>[]) (zWI a b c)):=⟨Tryz.call96,fun a b c=>iM Tryz.func96⟩
end
end Go.Wk
