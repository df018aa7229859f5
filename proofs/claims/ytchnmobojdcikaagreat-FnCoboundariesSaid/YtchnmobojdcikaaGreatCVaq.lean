/- x -/
import Derived.Test.YtchnmobojdcikaaGreatCVaa
import Derived.Test.YtchnmobojdcikaaGreatCVah
import Derived.Test.YtchnmobojdcikaaGreatCVam
import Derived.Test.YtchnmobojdcikaaGreatCWT
open Go.Proofs.Tryz renaming prog→J0
open Option renaming some→iz,none→iA
open Bool renaming true→iB,false→iC
namespace Go.Wk
open Go Go.Proofs Go.Ab
set_option maxRecDepth 100000
set_option maxHeartbeats 4000000
section
attribute [local irreducible] RW CW DK OkL Ok zV yA yW xK XS.post rng xN yP ixO zO yG yO yB zG GTo zP FnC FnK xQ wB Kp Lk BsL BuL RpL Bk Lc JQ AK
instance:HS Tryz.f337.8 [(2,3,0,.tr 7 19),(2,6,0,.trq 8 50 [0]),(2,9,0,.trq 10 59 [0]),(1,103,0,.tr 102 10),(1,4,0,.trf 104 0 14 [0,0]),(1,4,1,.trf 104 1 14 [1,0]),(1,4,2,.trf 104 2 14 [2,0]),(1,4,3,.trf 124 0 14 [0,0]),(1,4,4,.trf 124 1 14 [1,0]),(1,4,5,.trf 124 2 14 [2,0]),(1,123,0,.tr 122 10)]:=⟨⟩
instance t_b0:FI J0 337 (∀(a:SPr)(b:ByteArray),FnK J0 337 [qPr a,Str b] (fun r=>[(fun x=>T.agg [(Ro lV) x.zA,(Ro lM) x.zJ,(Ro lC) x.zB]) r.1,B r.2]) (fun _=>[]) (zWW a b)):=⟨Tryz.call337,fun a b=>iM Tryz.func337⟩
end
end Go.Wk
