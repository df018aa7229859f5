/- x -/
import Derived.Test.YtchnmobojdcikaaGreatCVac
import Derived.Test.YtchnmobojdcikaaGreatCVae
import Derived.Test.YtchnmobojdcikaaGreatCVav
import Derived.Test.YtchnmobojdcikaaGreatCVas
import Derived.Test.YtchnmobojdcikaaGreatCVbe
import Derived.Test.YtchnmobojdcikaaGreatCVbk
import Derived.Test.YtchnmobojdcikaaGreatCVbn
import Derived.Test.YtchnmobojdcikaaGreatCWT
import Derived.Test.YtchnmobojdcikaaGreatCVbm
import Derived.Test.YtchnmobojdcikaaGreatCVbp
import Derived.Test.YtchnmobojdcikaaGreatCVbh
import Derived.Test.YtchnmobojdcikaaGreatCVak
import Derived.Test.YtchnmobojdcikaaGreatCVba
import Derived.Test.YtchnmobojdcikaaGreatCVbo
import Derived.Test.YtchnmobojdcikaaGreatCVbq
open Go.Proofs.Tryz renaming prog→J0
open Option renaming some→iz,none→iA
open Bool renaming true→iB,false→iC
namespace Go.Wk
open Go Go.Proofs Go.Ab
set_option maxRecDepth 100000
set_option maxHeartbeats 4000000
section
attribute [local irreducible] RW CW DK OkL Ok zV yA yW xK XS.post rng xN yP ixO zO yG yO yB zG GTo zP FnC FnK xQ wB Kp Lk BsL BuL RpL Bk Lc JQ AK
instance t_b9:FI J0 31 (∀(a:SPr)(b:zC)(c:List (List Int)),FnK J0 31 [qPr a,vC b,T.ro (lM c)] (fun r=>[B r.1,I r.2]) (fun _=>[]) (zW8 a b c)):=⟨Tryz.call31,fun a b c=>iM Tryz.func31⟩
instance t_cb:FI J0 97 (∀(a:SPr)(b:zC)(c:List (List Int)),FnK J0 97 [qPr a,vC b,T.ro (lM c)] (fun r=>[B r.1,I r.2]) (fun _=>[]) (zXy a b c)):=⟨Tryz.call97,fun a b c=>iM Tryz.func97⟩
end
end Go.Wk

namespace Go.Wk
open Go Go.Proofs Go.Ab
set_option maxRecDepth 100000
set_option maxHeartbeats 4000000
section
attribute [local irreducible] RW CW DK OkL Ok zV yA yW xK XS.post rng xN yP ixO zO yG yO yB zG GTo zP FnC FnK xQ wB Kp Lk BsL BuL RpL Bk Lc JQ AK
instance:HS Tryz.f95.8 [(2,5,0,.trq 9 20 [0])]:=⟨⟩
instance t_b8:FI J0 95 (∀(a:SPr)(b:zC)(c:List (List Int)),FnK J0 95 [qPr a,vC b,T.ro (lM c)] (fun r:(List (List Int))×Int=>[lM r.1,I r.2]) (fun _=>[]) (zWJ a b c)):=⟨Tryz.call95,fun a b c=>iM Tryz.func95⟩
end
end Go.Wk

namespace Go.Wk
open Go Go.Proofs Go.Ab
set_option maxRecDepth 100000
set_option maxHeartbeats 4000000
section
attribute [local irreducible] RW CW DK OkL Ok zV yA yW xK XS.post rng xN yP ixO zO yG yO yB zG GTo zP FnC FnK xQ wB Kp Lk BsL BuL RpL Bk Lc JQ AK
instance t_ca:FI J0 19 (∀(a:SPr)(b:zC)(c:List (List Int)),FnK J0 19 [qPr a,vC b,T.ro (lM c)] (fun r:(List (List Int))×Int=>[lM r.1,I r.2]) (fun _=>[]) (zWG a b c)):=⟨Tryz.call19,fun a b c=>iM Tryz.func19⟩
end
end Go.Wk

namespace Go.Wk
open Go Go.Proofs Go.Ab
set_option maxRecDepth 100000
set_option maxHeartbeats 4000000
section
attribute [local irreducible] RW CW DK OkL Ok zV yA yW xK XS.post rng xN yP ixO zO yG yO yB zG GTo zP FnC FnK xQ wB Kp Lk BsL BuL RpL Bk Lc JQ AK
instance:HS Tryz.f14.8 [(2,4,0,.trq 5 28 [2]),(2,5,0,.trq 6 36 [0]),(2,6,0,.trq 8 43 [0]),(2,12,0,.trq 12 68 [0]),(2,13,0,.trq 14 75 [0]),(2,14,0,.trq 16 82 [0]),(2,17,0,.trq 18 118 [0]),(2,18,0,.trq 20 125 [0])]:=⟨⟩
instance t_bQ:FI J0 14 (∀(a:List Int),FnK J0 14 [T.ro ((L 1 (IK .u8)) a)] (fun r=>[B r]) (fun _=>[]) (zXz a)):=⟨Tryz.call14,fun a=>iM Tryz.func14⟩
end
end Go.Wk
