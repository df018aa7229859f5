/- x -/
import Derived.Test.YtchnmobojdcikaaGreatRVab
import Derived.Test.YtchnmobojdcikaaGreatRVaf
import Derived.Test.YtchnmobojdcikaaGreatRVah
import Derived.Test.YtchnmobojdcikaaGreatRVaj
import Derived.Test.YtchnmobojdcikaaGreatRVal
import Derived.Test.YtchnmobojdcikaaGreatRVan
import Derived.Test.YtchnmobojdcikaaGreatRVaw
import Derived.Test.YtchnmobojdcikaaGreatRWT
open Go.Proofs.Tryz renaming prog->J0
open Option renaming some->iW,none->iY
open Bool renaming true->iZ,false->ja
namespace Go.Wk
open Go Go.Proofs Go.Ab
set_option maxRecDepth 100000
set_option maxHeartbeats 4000000
section
attribute [local irreducible] RW CW DK OkL Ok yB yI xF xQ XS.post rng xV xC ixO zL yE yT yD zH GTo zR FnC FnK wA wN Kp Lk BsL BuL RpL Bk Lc JQ AK
instance:HS Tryz.f287.8 [(2,4,0,.tr 3 13),(0,23,0,.fz 22),(0,25,0,.tr 20 3),(2,6,0,.tr 3 25),(0,33,0,.fz 32),(1,5,0,.trf 35 0 34 [0,0]),(1,5,1,.trf 35 1 34 [1,0]),(1,5,2,.trf 35 2 34 [2,0]),(1,2,0,.trf 37 0 5 [0,0]),(1,2,1,.trf 37 1 5 [1,0]),(1,2,2,.trf 37 2 5 [2,0]),(0,42,0,.fz 41),(0,51,0,.fz 50),(0,83,0,.fz 82)]:=⟨⟩
instance:LH (R:=SPr×zE) zWX [2] [] (fun a=>[(0,T.ptr (T.agg [T.ro ((L 1 (IK .u8)) a.1),I a.2.1,I a.2.2.1])),(3,L 1 I a.2.2.2.1),(4,I a.2.2.2.2)]) (.xe 1 [] fun b=>[(0,T.ptr (T.agg [T.ro ((L 1 (IK .u8)) b.1),I b.2.1,I b.2.2.1])),(3,L 1 I b.2.2.2)]):=⟨⟩
instance t_bk:FI J0 287 (∀(a:zE),FnK J0 287 [T.ptr (wY a)] (fun r=>[(fun x=>T.agg [(Ro lV) x.zA,(Ro lM) x.zJ,(Ro lC) x.zC]) r.1]) (fun r=>[(0,(Pt (fun x=>T.agg [(Ro (L 1 (IK .u8))) x.code,I x.at_,I x.seed])) r.2)]) (zWY a)):=⟨Tryz.call287,fun a=>iM Tryz.func287⟩
end
end Go.Wk
