/- x -/
import Derived.Test.YtchnmobojdcikaaGreatRVaa
import Derived.Test.YtchnmobojdcikaaGreatRVae
import Derived.Test.YtchnmobojdcikaaGreatRVaj
import Derived.Test.YtchnmobojdcikaaGreatRWT
open Go.Proofs.Tryz renaming prog->J0
open Option renaming some->iW,none->iY
open Bool renaming true->iZ,false->ja
namespace Go.Wk
open Go Go.Proofs Go.Ab
set_option maxRecDepth 100000
set_option maxHeartbeats 4000000
section
attribute [local irreducible] RW CW DK OkL Ok yB yI xF xQ XS.post rng xV xC ixO zL yE yT yD zH GTo zR FnC FnK wA wN Kp Lk BsL BuL RpL Bk Lc JQ AK
instance:HS Tryz.f337.8 [(2,3,0,.tr 7 19),(2,6,0,.trq 8 50 [0]),(2,9,0,.trq 10 59 [0]),(1,103,0,.tr 102 10),(1,4,0,.trf 104 0 14 [0,0]),(1,4,1,.trf 104 1 14 [1,0]),(1,4,2,.trf 104 2 14 [2,0]),(1,4,3,.trf 124 0 14 [0,0]),(1,4,4,.trf 124 1 14 [1,0]),(1,4,5,.trf 124 2 14 [2,0]),(1,123,0,.tr 122 10)]:=⟨⟩
instance t_b9:FI J0 337 (∀(a:SPr)(b:ByteArray),FnK J0 337 [qPr a,Str b] (fun r=>[(fun x=>T.agg [(Ro lV) x.zA,(Ro lM) x.zJ,(Ro lC) x.zC]) r.1,B r.2]) (fun _=>[]) (zYZ a b)):=⟨Tryz.call337,fun a b=>iM Tryz.func337⟩
end
end Go.Wk
