/- x -/
import Derived.Test.YtchnmobojdcikaaGreatPVab
import Derived.Test.YtchnmobojdcikaaGreatPVac
import Derived.Test.YtchnmobojdcikaaGreatPVaf
import Derived.Test.YtchnmobojdcikaaGreatPVaj
import Derived.Test.YtchnmobojdcikaaGreatPVar
import Derived.Test.YtchnmobojdcikaaGreatPVay
import Derived.Test.YtchnmobojdcikaaGreatPWT
open Go.Proofs.Tryz renaming prog→J0
open Option renaming some→aB,none→aC
open Bool renaming true→aD,false→aE
namespace Go.Wk
open Go Go.Proofs Go.Ab
set_option maxRecDepth 100000
set_option maxHeartbeats 4000000
section
attribute [local irreducible] RW CW DK OkL Ok yA yB xE xH XS.post rng xK yV ixO zN yD xC zU zC GTo zO FnC FnK xV wG Kp Lk BsL BuL RpL Bk Lc JQ AK
instance:HS Tryz.f221.8 [(1,4,0,.trf 29 0 6 [0,0]),(1,4,1,.trf 29 1 6 [1,0]),(1,4,2,.trf 29 2 6 [2,0]),(1,4,3,.fz 31)]:=⟨⟩
instance(c:Int):LH (R:=SPr×zH) (zQg c) [1,4] [] (fun b=>[(0,T.ptr (T.agg [T.ro ((L 1 (IK .u8)) b.1),I b.2.1,I b.2.2.1])),(5,I b.2.2.2)]) (.xs (.xe 0 [1] fun a=>[(0,T.ptr (T.agg [T.ro ((L 1 (IK .u8)) a.1),I a.2.1,I a.2.2]))]) .xr):=⟨⟩
instance t_aN:FI J0 221 (∀(a:zH)(b:Int),FnK J0 221 [T.ptr (uJ a),I b] (fun r=>[(fun x=>T.agg [(Ro lV) x.zA,(Ro lM) x.zF,(Ro lC) x.zB]) r.1]) (fun r=>[(0,(Pt (fun x=>T.agg [(Ro (L 1 (IK .u8))) x.code,I x.at_,I x.seed])) r.2)]) (zSl a b)):=⟨Tryz.call221,fun a b=>iM Tryz.func221⟩
end
end Go.Wk
