/- x -/
import Derived.Test.YtchnmobojdcikaaGreatCVaa
import Derived.Test.YtchnmobojdcikaaGreatCVab
import Derived.Test.YtchnmobojdcikaaGreatCVag
import Derived.Test.YtchnmobojdcikaaGreatCVah
import Derived.Test.YtchnmobojdcikaaGreatCVai
import Derived.Test.YtchnmobojdcikaaGreatCVam
import Derived.Test.YtchnmobojdcikaaGreatCWT
import Derived.Test.YtchnmobojdcikaaGreatCVau
import Derived.Test.YtchnmobojdcikaaGreatCVbb
open Go.Proofs.Tryz renaming prog→J0
open Option renaming some→iz,none→iA
open Bool renaming true→iB,false→iC
namespace Go.Wk
open Go Go.Proofs Go.Ab
set_option maxRecDepth 100000
set_option maxHeartbeats 4000000
section
attribute [local irreducible] RW CW DK OkL Ok zV yA yW xK XS.post rng xN yP ixO zO yG yO yB zG GTo zP FnC FnK xQ wB Kp Lk BsL BuL RpL Bk Lc JQ AK
instance:HS Tryz.f222.8 [(0,22,0,.trq 20 5 [0,0]),(1,4,0,.trf 91 0 5 [0,0]),(1,4,1,.trf 91 1 5 [1,0]),(1,4,2,.trf 91 2 5 [2,0]),(0,34,0,.fz 33)]:=⟨⟩
instance t_b3:FI J0 222 (∀(a:zF)(b:SPr),FnK J0 222 [T.ptr (vU a),qPr b] (fun r=>[vE r.1]) (fun r=>[(0,(Pt (fun x=>T.agg [(Ro (L 1 (IK .u8))) x.code,I x.at_,I x.seed])) r.2)]) (zXs a b)):=⟨Tryz.call222,fun a b=>iM Tryz.func222⟩
end
end Go.Wk

namespace Go.Wk
open Go Go.Proofs Go.Ab
set_option maxRecDepth 100000
set_option maxHeartbeats 4000000
section
attribute [local irreducible] RW CW DK OkL Ok zV yA yW xK XS.post rng xN yP ixO zO yG yO yB zG GTo zP FnC FnK xQ wB Kp Lk BsL BuL RpL Bk Lc JQ AK
instance t_bv:FI J0 111 (∀(a:zF)(b:Int),FnK J0 111 [T.ptr (vU a),I b] (fun r=>[(fun x=>T.agg [(Ro lV) x.zA,(Ro lM) x.zJ,(Ro lC) x.zB]) r.1]) (fun r=>[(0,(Pt (fun x=>T.agg [(Ro (L 1 (IK .u8))) x.code,I x.at_,I x.seed])) r.2)]) (zOp a b)):=⟨Tryz.call111,fun a b=>iM Tryz.func111⟩
end
end Go.Wk
