/- x -/
import Derived.Test.YtchnmobojdcikaaGreatVag
import Derived.Test.YtchnmobojdcikaaGreatVah
import Derived.Test.YtchnmobojdcikaaGreatVai
import Derived.Test.YtchnmobojdcikaaGreatWT
open Go.Proofs.Tryz renaming prog→J0
open Option renaming some→dS,none→dT
open Bool renaming true→dU,false→dV
namespace Go.Wk
open Go Go.Proofs Go.Ab
set_option maxRecDepth 100000
set_option maxHeartbeats 4000000
section
attribute [local irreducible] RW CW DK OkL Ok zU zY yO yZ XS.post rng xC yL ixO zL zX yM zV zE GTo zK FnC FnK xJ xQ Kp Lk BsL BuL RpL Bk Lc JQ AK
instance t_b4:FI J0 111 (∀(a:zD)(b:Int),FnK J0 111 [T.ptr (wO a),I b] (fun r=>[(fun x=>T.agg [(Ro lV) x.zA,(Ro lM) x.zN,(Ro lC) x.zC]) r.1]) (fun r=>[(0,(Pt (fun x=>T.agg [(Ro (L 1 (IK .u8))) x.code,I x.at_,I x.seed])) r.2)]) (zO8 a b)):=⟨Tryz.call111,fun a b=>iM Tryz.func111⟩
instance:HS Tryz.f128.8 [(1,8,0,.trf 18 2 16 [2,1]),(2,18,0,.fi 9 8),(0,42,0,.fz 41),(0,52,0,.trq 47 8 [2,0])]:=⟨⟩
instance t_cb:FI J0 128 (∀(a:zD)(b:Int),FnK J0 128 [T.ptr (wO a),I b] (fun r:SPr×zB×zD=>[(fun x=>T.agg [(Ro lV) x.zA,(Ro lM) x.zN,(Ro lC) x.zC]) r.1,(fun x=>T.agg [I x.Prime,I x.Dim,(Ro lC) x.zG]) r.2.1]) (fun r=>[(0,(Pt (fun x=>T.agg [(Ro (L 1 (IK .u8))) x.code,I x.at_,I x.seed])) r.2.2)]) (zRs a b)):=⟨Tryz.call128,fun a b=>iM Tryz.func128⟩
end
end Go.Wk
