/- x -/
import Derived.Test.YtchnmobojdcikaaGreatQVaa
import Derived.Test.YtchnmobojdcikaaGreatQVab
import Derived.Test.YtchnmobojdcikaaGreatQVag
import Derived.Test.YtchnmobojdcikaaGreatQVah
import Derived.Test.YtchnmobojdcikaaGreatQVai
import Derived.Test.YtchnmobojdcikaaGreatQVam
import Derived.Test.YtchnmobojdcikaaGreatQWT
import Derived.Test.YtchnmobojdcikaaGreatQVaz
import Derived.Test.YtchnmobojdcikaaGreatQVau
import Derived.Test.YtchnmobojdcikaaGreatQVbf
open Go.Proofs.Tryz renaming prog→J0
open Option renaming some→dq,none→dt
open Bool renaming true→du,false→dv
namespace Go.Wk
open Go Go.Proofs Go.Ab
set_option maxRecDepth 100000
set_option maxHeartbeats 4000000
section
attribute [local irreducible] RW CW DK OkL Ok zS zV yQ xI XS.post rng xL yO ixO zP zU yT zZ zG GTo zM FnC FnK xK xN Kp Lk BsL BuL RpL Bk Lc JQ AK
instance:HS Tryz.f222.8 [(0,22,0,.trq 20 5 [0,0]),(1,4,0,.trf 91 0 5 [0,0]),(1,4,1,.trf 91 1 5 [1,0]),(1,4,2,.trf 91 2 5 [2,0]),(0,34,0,.fz 33)]:=⟨⟩
instance t_bV:FI J0 222 (∀(a:zE)(b:SPr),FnK J0 222 [T.ptr (vB a),qPr b] (fun r=>[vW r.1]) (fun r=>[(0,(Pt (fun x=>T.agg [(Ro (L 1 (IK .u8))) x.code,I x.at_,I x.seed])) r.2)]) (zUN a b)):=⟨Tryz.call222,fun a b=>iM Tryz.func222⟩
end
end Go.Wk

namespace Go.Wk
open Go Go.Proofs Go.Ab
set_option maxRecDepth 100000
set_option maxHeartbeats 4000000
section
attribute [local irreducible] RW CW DK OkL Ok zS zV yQ xI XS.post rng xL yO ixO zP zU yT zZ zG GTo zM FnC FnK xK xN Kp Lk BsL BuL RpL Bk Lc JQ AK
instance:HS Tryz.f223.8 [(1,4,0,.trf 30 0 5 [0,0]),(1,4,1,.trf 30 1 5 [1,0]),(1,4,2,.trf 30 2 5 [2,0]),(1,4,3,.trf 48 0 5 [0,0]),(1,4,4,.trf 48 1 5 [1,0]),(1,4,5,.trf 48 2 5 [2,0]),(1,4,6,.trf 78 0 5 [0,0]),(1,4,7,.trf 78 1 5 [1,0]),(1,4,8,.trf 78 2 5 [2,0])]:=⟨⟩
instance t_bG:FI J0 223 (∀(a:zE)(b:SPr),FnK J0 223 [T.ptr (vB a),qPr b] (fun r=>[vW r.1]) (fun r=>[(0,(Pt (fun x=>T.agg [(Ro (L 1 (IK .u8))) x.code,I x.at_,I x.seed])) r.2)]) (zSv a b)):=⟨Tryz.call223,fun a b=>iM Tryz.func223⟩
end
end Go.Wk

namespace Go.Wk
open Go Go.Proofs Go.Ab
set_option maxRecDepth 100000
set_option maxHeartbeats 4000000
section
attribute [local irreducible] RW CW DK OkL Ok zS zV yQ xI XS.post rng xL yO ixO zP zU yT zZ zG GTo zM FnC FnK xK xN Kp Lk BsL BuL RpL Bk Lc JQ AK
instance t_bp:FI J0 111 (∀(a:zE)(b:Int),FnK J0 111 [T.ptr (vB a),I b] (fun r=>[(fun x=>T.agg [(Ro lV) x.zA,(Ro lM) x.zN,(Ro lC) x.zD]) r.1]) (fun r=>[(0,(Pt (fun x=>T.agg [(Ro (L 1 (IK .u8))) x.code,I x.at_,I x.seed])) r.2)]) (zMx a b)):=⟨Tryz.call111,fun a b=>iM Tryz.func111⟩
end
end Go.Wk

namespace Go.Wk
open Go Go.Proofs Go.Ab
set_option maxRecDepth 100000
set_option maxHeartbeats 4000000
section
attribute [local irreducible] RW CW DK OkL Ok zS zV yQ xI XS.post rng xL yO ixO zP zU yT zZ zG GTo zM FnC FnK xK xN Kp Lk BsL BuL RpL Bk Lc JQ AK
instance:HS Tryz.f128.8 [(1,8,0,.trf 18 2 16 [2,1]),(2,18,0,.fi 9 8),(0,42,0,.fz 41),(0,52,0,.trq 47 8 [2,0])]:=⟨⟩
instance t_bH:FI J0 128 (∀(a:zE)(b:Int),FnK J0 128 [T.ptr (vB a),I b] (fun r:SPr×zC×zE=>[(fun x=>T.agg [(Ro lV) x.zA,(Ro lM) x.zN,(Ro lC) x.zD]) r.1,(fun x=>T.agg [I x.Prime,I x.Dim,(Ro lC) x.zB]) r.2.1]) (fun r=>[(0,(Pt (fun x=>T.agg [(Ro (L 1 (IK .u8))) x.code,I x.at_,I x.seed])) r.2.2)]) (zSw a b)):=⟨Tryz.call128,fun a b=>iM Tryz.func128⟩
end
end Go.Wk
