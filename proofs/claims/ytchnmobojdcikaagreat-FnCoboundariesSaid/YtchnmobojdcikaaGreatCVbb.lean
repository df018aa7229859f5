/- x -/
import Derived.Test.YtchnmobojdcikaaGreatCVab
import Derived.Test.YtchnmobojdcikaaGreatCVag
import Derived.Test.YtchnmobojdcikaaGreatCVai
import Derived.Test.YtchnmobojdcikaaGreatCVan
import Derived.Test.YtchnmobojdcikaaGreatCVao
import Derived.Test.YtchnmobojdcikaaGreatCVax
import Derived.Test.YtchnmobojdcikaaGreatCWT
import Derived.Test.YtchnmobojdcikaaGreatCVaa
import Derived.Test.YtchnmobojdcikaaGreatCVal
import Derived.Test.YtchnmobojdcikaaGreatCVap
open Go.Proofs.Tryz renaming prog→J0
open Option renaming some→iz,none→iA
open Bool renaming true→iB,false→iC
namespace Go.Wk
open Go Go.Proofs Go.Ab
set_option maxRecDepth 100000
set_option maxHeartbeats 4000000
section
attribute [local irreducible] RW CW DK OkL Ok zV yA yW xK XS.post rng xN yP ixO zO yG yO yB zG GTo zP FnC FnK xQ wB Kp Lk BsL BuL RpL Bk Lc JQ AK
instance:HS Tryz.f287.8 [(2,4,0,.tr 3 13),(0,23,0,.fz 22),(0,25,0,.tr 20 3),(2,6,0,.tr 3 25),(0,33,0,.fz 32),(1,5,0,.trf 35 0 34 [0,0]),(1,5,1,.trf 35 1 34 [1,0]),(1,5,2,.trf 35 2 34 [2,0]),(1,2,0,.trf 37 0 5 [0,0]),(1,2,1,.trf 37 1 5 [1,0]),(1,2,2,.trf 37 2 5 [2,0]),(0,42,0,.fz 41),(0,51,0,.fz 50),(0,83,0,.fz 82)]:=⟨⟩
instance:LH (R:=SPr×zF) zUP [2] [] (fun a=>[(0,T.ptr (T.agg [T.ro ((L 1 (IK .u8)) a.1),I a.2.1,I a.2.2.1])),(3,L 1 I a.2.2.2.1),(4,I a.2.2.2.2)]) (.xe 1 [] fun b=>[(0,T.ptr (T.agg [T.ro ((L 1 (IK .u8)) b.1),I b.2.1,I b.2.2.1])),(3,L 1 I b.2.2.2)]):=⟨⟩
instance t_bd:FI J0 287 (∀(a:zF),FnK J0 287 [T.ptr (vU a)] (fun r=>[(fun x=>T.agg [(Ro lV) x.zA,(Ro lM) x.zJ,(Ro lC) x.zB]) r.1]) (fun r=>[(0,(Pt (fun x=>T.agg [(Ro (L 1 (IK .u8))) x.code,I x.at_,I x.seed])) r.2)]) (zUQ a)):=⟨Tryz.call287,fun a=>iM Tryz.func287⟩
end
end Go.Wk

namespace Go.Wk
open Go Go.Proofs Go.Ab
set_option maxRecDepth 100000
set_option maxHeartbeats 4000000
section
attribute [local irreducible] RW CW DK OkL Ok zV yA yW xK XS.post rng xN yP ixO zO yG yO yB zG GTo zP FnC FnK xQ wB Kp Lk BsL BuL RpL Bk Lc JQ AK
instance:HS Tryz.f221.8 [(1,4,0,.trf 29 0 6 [0,0]),(1,4,1,.trf 29 1 6 [1,0]),(1,4,2,.trf 29 2 6 [2,0]),(1,4,3,.fz 31)]:=⟨⟩
instance(c:Int):LH (R:=SPr×zF) (zUR c) [1,4] [] (fun b=>[(0,T.ptr (T.agg [T.ro ((L 1 (IK .u8)) b.1),I b.2.1,I b.2.2.1])),(5,I b.2.2.2)]) (.xs (.xe 0 [1] fun a=>[(0,T.ptr (T.agg [T.ro ((L 1 (IK .u8)) a.1),I a.2.1,I a.2.2]))]) .xr):=⟨⟩
instance t_be:FI J0 221 (∀(a:zF)(b:Int),FnK J0 221 [T.ptr (vU a),I b] (fun r=>[(fun x=>T.agg [(Ro lV) x.zA,(Ro lM) x.zJ,(Ro lC) x.zB]) r.1]) (fun r=>[(0,(Pt (fun x=>T.agg [(Ro (L 1 (IK .u8))) x.code,I x.at_,I x.seed])) r.2)]) (zUS a b)):=⟨Tryz.call221,fun a b=>iM Tryz.func221⟩
end
end Go.Wk
