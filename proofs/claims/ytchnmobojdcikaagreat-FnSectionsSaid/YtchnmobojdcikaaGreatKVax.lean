/- x -/
import Derived.Test.YtchnmobojdcikaaGreatKVaq
import Derived.Test.YtchnmobojdcikaaGreatKVar
import Derived.Test.YtchnmobojdcikaaGreatKVas
import Derived.Test.YtchnmobojdcikaaGreatKVat
import Derived.Test.YtchnmobojdcikaaGreatKWT
open Go.Proofs.Tryz renaming prog→J0
open Option renaming some→dJ,none→dK
open Bool renaming true→dL,false→dM
namespace Go.Wk
open Go Go.Proofs Go.Ab
set_option maxRecDepth 100000
set_option maxHeartbeats 4000000
section
attribute [local irreducible] RW CW DK OkL Ok yO yY wQ wK XS.post rng wS xR ixO zQ zZ wP yG zH GTo zX FnC FnK vM uH Kp Lk BsL BuL RpL Bk Lc JQ AK
instance:HS Tryz.f25.8 [(1,8,0,.trf 32 0 31 [0,0]),(1,8,1,.trf 32 1 31 [1,0]),(1,8,2,.trf 32 2 31 [2,0]),(1,9,0,.trf 33 2 31 [2,1]),(2,8,0,.trq 10 31 [2]),(1,4,0,.trf 35 0 8 [0,0]),(1,4,1,.trf 35 1 8 [1,0]),(1,4,2,.trf 35 2 8 [2,0]),(1,5,0,.trf 36 2 9 [2,0])]:=⟨⟩
instance t_b9:FI J0 25 (∀(a:SPr)(b:Int),FnK J0 25 [qPr a,I b] (fun r:SPr×zC×(List (List Int))×Int=>[wH r.1,wB r.2.1,lM r.2.2.1,I r.2.2.2]) (fun _=>[]) (zYj a b)):=⟨Tryz.call25,fun a b=>iM Tryz.func25⟩
end
end Go.Wk
