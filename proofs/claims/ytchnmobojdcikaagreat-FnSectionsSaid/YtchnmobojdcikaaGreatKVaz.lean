/- x -/
import Derived.Test.YtchnmobojdcikaaGreatKVau
import Derived.Test.YtchnmobojdcikaaGreatKVav
import Derived.Test.YtchnmobojdcikaaGreatKVaw
import Derived.Test.YtchnmobojdcikaaGreatKVax
import Derived.Test.YtchnmobojdcikaaGreatKWT
open Go.Proofs.Tryz renaming prog→J0
open Option renaming some→dJ,none→dK
open Bool renaming true→dL,false→dM
namespace Go.Wk
open Go Go.Proofs Go.Ab
set_option maxRecDepth 100000
set_option maxHeartbeats 4000000
section
attribute [local irreducible] RW CW DK OkL Ok yO yY wQ wK XS.post rng wS xR ixO zQ zZ wP yG zH GTo zX FnC FnK vM uH Kp Lk BsL BuL RpL Bk Lc JQ AK
instance:HS Tryz.f12.8 [(2,4,0,.trq 5 18 [2]),(1,6,0,.trf 27 0 26 [0,0]),(1,6,1,.trf 27 1 26 [1,0]),(1,6,2,.trf 27 2 26 [2,0]),(1,8,0,.trf 34 0 33 [0,0]),(1,8,1,.trf 34 1 33 [1,0]),(1,8,2,.trf 34 2 33 [2,0]),(1,10,0,.trf 53 0 52 [0,0]),(1,10,1,.trf 53 1 52 [1,0]),(1,10,2,.trf 53 2 52 [2,0]),(1,11,0,.trf 54 2 52 [2,1]),(2,11,0,.trq 12 52 [2])]:=⟨⟩
instance t_bT:FI J0 12 (∀(a:List Int),FnK J0 12 [T.ro ((L 1 (IK .u8)) a)] (fun r=>[B r]) (fun _=>[]) (zYn a)):=⟨Tryz.call12,fun a=>iM Tryz.func12⟩
end
end Go.Wk
