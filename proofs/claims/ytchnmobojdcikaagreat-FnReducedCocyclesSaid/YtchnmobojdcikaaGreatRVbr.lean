/- x -/
import Derived.Test.YtchnmobojdcikaaGreatRVab
import Derived.Test.YtchnmobojdcikaaGreatRVad
import Derived.Test.YtchnmobojdcikaaGreatRVaf
import Derived.Test.YtchnmobojdcikaaGreatRVah
import Derived.Test.YtchnmobojdcikaaGreatRVav
import Derived.Test.YtchnmobojdcikaaGreatRVaz
import Derived.Test.YtchnmobojdcikaaGreatRVbg
import Derived.Test.YtchnmobojdcikaaGreatRVbo
import Derived.Test.YtchnmobojdcikaaGreatRVbq
import Derived.Test.YtchnmobojdcikaaGreatRWT
import Derived.Test.YtchnmobojdcikaaGreatRVbb
import Derived.Test.YtchnmobojdcikaaGreatRVbn
import Derived.Test.YtchnmobojdcikaaGreatRVbp
open Go.Proofs.Tryz renaming prog->J0
open Option renaming some->iW,none->iY
open Bool renaming true->iZ,false->ja
namespace Go.Wk
open Go Go.Proofs Go.Ab
set_option maxRecDepth 100000
set_option maxHeartbeats 4000000
section
attribute [local irreducible] RW CW DK OkL Ok yB yI xF xQ XS.post rng xV xC ixO zL yE yT yD zH GTo zR FnC FnK wA wN Kp Lk BsL BuL RpL Bk Lc JQ AK
instance:HS Tryz.f98.8 [(2,2,0,.tr 6 13),(0,14,0,.fz 16),(2,8,0,.tr 10 51),(2,11,0,.tr 11 73)]:=⟨⟩
instance t_cg:FI J0 98 (∀(a:List Int),FnK J0 98 [T.ro ((L 1 (IK .u8)) a)] (fun r:SPr×zB×(List (List Int))×(List (List Int))=>[(fun x=>T.agg [(Ro lV) x.zA,(Ro lM) x.zJ,(Ro lC) x.zC]) r.1,(fun x=>T.agg [I x.Prime,I x.Dim,(Ro lC) x.zF]) r.2.1,T.ro (lM r.2.2.1),T.ro (lM r.2.2.2)]) (fun _=>[]) (zZz a)):=⟨Tryz.call98,fun a=>iM Tryz.func98⟩
instance t_cp:FI J0 16 (∀(a:List Int),FnK J0 16 [T.ro ((L 1 (IK .u8)) a)] (fun r:SPr×zB×(List (List Int))×(List (List Int))=>[(fun x=>T.agg [(Ro lV) x.zA,(Ro lM) x.zJ,(Ro lC) x.zC]) r.1,(fun x=>T.agg [I x.Prime,I x.Dim,(Ro lC) x.zF]) r.2.1,T.ro (lM r.2.2.1),T.ro (lM r.2.2.2)]) (fun _=>[]) (yCx a)):=⟨Tryz.call16,fun a=>iM Tryz.func16⟩
instance:HS Tryz.f3.8 [(2,11,0,.trq 11 68 [0]),(2,12,0,.trq 13 75 [0]),(2,13,0,.trq 15 82 [0]),(2,14,0,.trq 17 89 [0]),(2,18,0,.trq 21 130 [0]),(2,19,0,.trq 23 138 [0]),(2,20,0,.trq 25 146 [0])]:=⟨⟩
instance t_bX:FI J0 3 (∀(a:List Int),FnK J0 3 [T.ro ((L 1 (IK .u8)) a)] (fun r=>[B r]) (fun _=>[]) (zZ1 a)):=⟨Tryz.call3,fun a=>iM Tryz.func3⟩
end
end Go.Wk
