/- x -/
import Derived.Test.YtbemegmelmannaaGreatDoorVae
import Derived.Test.YtbemegmelmannaaGreatDoorVai
import Derived.Test.YtbemegmelmannaaGreatDoorVal
import Derived.Test.YtbemegmelmannaaGreatDoorVaj
import Derived.Test.YtbemegmelmannaaGreatDoorVao
import Derived.Test.YtbemegmelmannaaGreatDoorVau
import Derived.Test.YtbemegmelmannaaGreatDoorWT
namespace Go.Wk
open Go Go.Proofs Go.Ab
set_option maxRecDepth 100000
set_option maxHeartbeats 4000000
section
attribute [local irreducible] RW CW DK OkL Ok Andthen InBlock Round RetG XS.post rng quoO remO ixO sliceO appO appzO lenOk loopO GTo Ghost FnC FnK LocL OptL Kp BsL BuL RpL Bk Lc JQ AK
instance:HS Tryz.f6.results [(2,11,0,.trq 8 38 [0]),(2,12,0,.tr 10 42),(2,13,0,.tr 11 44),(2,14,0,.trq 12 49 [0]),(2,34,0,.trq 17 107 [0])]:=⟨⟩
instance t_ba:FI Tryz.prog 6 (∀ (x0:List SNode) (x1:ByteArray) (x2:List SNode),FnK Tryz.prog 6 [T.ro ((L 3 eSNode) x0),Str x1,T.ro ((L 3 eSNode) x2)] (fun r:Bool => [B r]) (fun _ => []) (f_ba x0 x1 x2)):=⟨Tryz.call6,fun x0 x1 x2 => iM Tryz.func6⟩
end
end Go.Wk
