/- x -/
import Derived.Test.YtbemegmelmannaaGreatDoorVal
import Derived.Test.YtbemegmelmannaaGreatDoorVba
import Derived.Test.YtbemegmelmannaaGreatDoorWT
import Derived.Test.YtbemegmelmannaaGreatDoorVae
import Derived.Test.YtbemegmelmannaaGreatDoorVaj
import Derived.Test.YtbemegmelmannaaGreatDoorVax
import Derived.Test.YtbemegmelmannaaGreatDoorVat
import Derived.Test.YtbemegmelmannaaGreatDoorVav
namespace Go.Wk
open Go Go.Proofs Go.Ab
set_option maxRecDepth 100000
set_option maxHeartbeats 4000000
section
attribute [local irreducible] RW CW DK OkL Ok Andthen InBlock Round RetG XS.post rng quoO remO ixO sliceO appO appzO lenOk loopO GTo Ghost FnC FnK LocL OptL Kp BsL BuL RpL Bk Lc JQ AK
instance:HS Tryz.f8.results [(2,4,0,.tr 5 13),(2,5,0,.trq 6 16 [0])]:=⟨⟩
instance t_aX:FI Tryz.prog 8 (∀ (x0:ByteArray),FnK Tryz.prog 8 [Str x0] (fun r:(List SNode) × Int × Int => [(L 3 eSNode) r.1,I r.2.1,I r.2.2]) (fun _ => []) (f_aX x0)):=⟨Tryz.call8,fun x0 => iM Tryz.func8⟩
end
end Go.Wk

namespace Go.Wk
open Go Go.Proofs Go.Ab
set_option maxRecDepth 100000
set_option maxHeartbeats 4000000
section
attribute [local irreducible] RW CW DK OkL Ok Andthen InBlock Round RetG XS.post rng quoO remO ixO sliceO appO appzO lenOk loopO GTo Ghost FnC FnK LocL OptL Kp BsL BuL RpL Bk Lc JQ AK
instance:HS Tryz.f3.results [(2,4,0,.trq 3 19 [0]),(2,5,0,.trq 6 25 [0]),(2,16,0,.trq 11 56 [0])]:=⟨⟩
instance t_bc:FI Tryz.prog 3 (∀ (x0:ByteArray),FnK Tryz.prog 3 [Str x0] (fun r:Bool => [B r]) (fun _ => []) (f_bc x0)):=⟨Tryz.call3,fun x0 => iM Tryz.func3⟩
end
end Go.Wk

