/- x -/
import Derived.Test.YtchnmobojdcikaaGreatQVaa
import Derived.Test.YtchnmobojdcikaaGreatQVab
import Derived.Test.YtchnmobojdcikaaGreatQVad
import Derived.Test.YtchnmobojdcikaaGreatQVag
import Derived.Test.YtchnmobojdcikaaGreatQVah
import Derived.Test.YtchnmobojdcikaaGreatQVax
import Derived.Test.YtchnmobojdcikaaGreatQVbb
import Derived.Test.YtchnmobojdcikaaGreatQVbe
import Derived.Test.YtchnmobojdcikaaGreatQVbg
import Derived.Test.YtchnmobojdcikaaGreatQWT
open Go.Proofs.Tryz renaming prog→J0
open Option renaming some→dq,none→dt
open Bool renaming true→du,false→dv
namespace Go.Wk
open Go Go.Proofs Go.Ab
set_option maxRecDepth 100000
set_option maxHeartbeats 4000000
section
attribute [local irreducible] RW CW DK OkL Ok zS zV yQ xI XS.post rng xL yO ixO zP zU yT zZ zG GTo zM FnC FnK xK xN Kp Lk BsL BuL RpL Bk Lc JQ AK
instance:HS Tryz.f176.8 [(2,2,0,.tr 5 12),(2,4,0,.tr 8 18),(0,10,0,.fz 27),(0,42,0,.tr 39 8),(2,6,0,.tr 8 42),(0,53,0,.tr 52 8),(0,64,0,.fz 8),(0,64,1,.res 63 8 []),(2,16,0,.tr 8 64),(2,16,1,.tr 8 71),(0,79,0,.tr 78 8),(0,71,0,.fz 8),(0,71,1,.res 70 8 [])]:=⟨⟩
instance(c:SPr×zC×zE):LH (R:=SPr×zC×zF) (zS3 c) [2,3,4,6,7] [] (fun b=>[(5,T.ptr (T.agg [T.ro ((L 1 (IK .u8)) b.1),I b.2.1,I b.2.2.1])),(8,L 1 (Ro lV) b.2.2.2.1),(9,I b.2.2.2.2)]) (.xe 0 [] fun a=>[(5,T.ptr (T.agg [T.ro ((L 1 (IK .u8)) a.1),I a.2.1,I a.2.2.1])),(8,L 1 (Ro lV) a.2.2.2)]):=⟨⟩
instance t_bl:FI J0 176 (∀(a:List Int),FnK J0 176 [T.ro ((L 1 (IK .u8)) a)] (fun r:SPr×zC×zF=>[(fun x=>T.agg [(Ro lV) x.zA,(Ro lM) x.zN,(Ro lC) x.zD]) r.1,(fun x=>T.agg [I x.Prime,I x.Dim,(Ro lC) x.zB]) r.2.1,(fun x=>T.agg [I x.Prime,I x.yW,(L 1 (Ro lV)) x.Rows]) r.2.2]) (fun _=>[]) (zUS a)):=⟨Tryz.call176,fun a=>iM Tryz.func176⟩
end
end Go.Wk

namespace Go.Wk
open Go Go.Proofs Go.Ab
set_option maxRecDepth 100000
set_option maxHeartbeats 4000000
section
attribute [local irreducible] RW CW DK OkL Ok zS zV yQ xI XS.post rng xL yO ixO zP zU yT zZ zG GTo zM FnC FnK xK xN Kp Lk BsL BuL RpL Bk Lc JQ AK
instance:HS Tryz.f63.8 [(1,4,0,.trf 9 2 6 [2,2])]:=⟨⟩
instance t_b1:FI J0 63 (∀(a:List Int),FnK J0 63 [T.ro ((L 1 (IK .u8)) a)] (fun r:SPr×zC×zF=>[(fun x=>T.agg [(Ro lV) x.zA,(Ro lM) x.zN,(Ro lC) x.zD]) r.1,(fun x=>T.agg [I x.Prime,I x.Dim,(Ro lC) x.zB]) r.2.1,(fun x=>T.agg [I x.Prime,I x.yW,(L 1 (Ro lV)) x.Rows]) r.2.2]) (fun _=>[]) (zXi a)):=⟨Tryz.call63,fun a=>iM Tryz.func63⟩
end
end Go.Wk
