/- x -/
import Derived.Test.YtchnmobojdcikaaGreatKVau
import Derived.Test.YtchnmobojdcikaaGreatKVav
import Derived.Test.YtchnmobojdcikaaGreatKVaw
import Derived.Test.YtchnmobojdcikaaGreatKVax
import Derived.Test.YtchnmobojdcikaaGreatKWT
open Go.Proofs.Tryz renaming prog→J0
open Option renaming some→dJ,none→dK
open Bool renaming true→dL,false→dM
namespace Go.Wk
open Go Go.Proofs Go.Ab
set_option maxRecDepth 100000
set_option maxHeartbeats 4000000
section
attribute [local irreducible] RW CW DK OkL Ok yO yY wQ wK XS.post rng wS xR ixO zQ zZ wP yG zH GTo zX FnC FnK vM uH Kp Lk BsL BuL RpL Bk Lc JQ AK
instance:HS Tryz.f11.8 [(2,4,0,.trq 5 19 [2]),(1,11,0,.trf 58 0 57 [0,0]),(1,11,1,.trf 58 1 57 [1,0]),(1,11,2,.trf 58 2 57 [2,0]),(1,13,0,.trf 65 0 64 [0,0]),(1,13,1,.trf 65 1 64 [1,0]),(1,13,2,.trf 65 2 64 [2,0])]:=⟨⟩
instance t_bS:FI J0 11 (∀(a:List Int),FnK J0 11 [T.ro ((L 1 (IK .u8)) a)] (fun r=>[B r]) (fun _=>[]) (zYm a)):=⟨Tryz.call11,fun a=>iM Tryz.func11⟩
end
end Go.Wk
