/- x -/
import Derived.Test.YtbemegmelmannaaGreatDoorVae
import Derived.Test.YtbemegmelmannaaGreatDoorVam
import Derived.Test.YtbemegmelmannaaGreatDoorVas
import Derived.Test.YtbemegmelmannaaGreatDoorWT
import Derived.Test.YtbemegmelmannaaGreatDoorVai
import Derived.Test.YtbemegmelmannaaGreatDoorVaj
import Derived.Test.YtbemegmelmannaaGreatDoorVan
import Derived.Test.YtbemegmelmannaaGreatDoorVao
namespace Go.Wk
open Go Go.Proofs Go.Ab
set_option maxRecDepth 100000
set_option maxHeartbeats 4000000
section
attribute [local irreducible] RW CW DK OkL Ok Andthen InBlock Round RetG XS.post rng quoO remO ixO sliceO appO appzO lenOk loopO GTo Ghost FnC FnK LocL OptL Kp BsL BuL RpL Bk Lc JQ AK
instance t_bd:FI Tryz.prog 15 (∀ (x0:List SNode),FnK Tryz.prog 15 [T.ro ((L 3 eSNode) x0)] (fun r:Bool => [B r]) (fun _ => []) (f_bd x0)):=⟨Tryz.call15,fun x0 => iM Tryz.func15⟩
instance t_a7:FI Tryz.prog 17 (∀ (x0:List SNode),FnK Tryz.prog 17 [T.ro ((L 3 eSNode) x0)] (fun r:ByteArray × Int => [Str r.1,I r.2]) (fun _ => []) (f_a7 x0)):=⟨Tryz.call17,fun x0 => iM Tryz.func17⟩
end
end Go.Wk

namespace Go.Wk
open Go Go.Proofs Go.Ab
set_option maxRecDepth 100000
set_option maxHeartbeats 4000000
section
attribute [local irreducible] RW CW DK OkL Ok Andthen InBlock Round RetG XS.post rng quoO remO ixO sliceO appO appzO lenOk loopO GTo Ghost FnC FnK LocL OptL Kp BsL BuL RpL Bk Lc JQ AK
instance:HS Tryz.f4.results [(2,7,0,.tr 5 16)]:=⟨⟩
instance t_a6:FI Tryz.prog 4 (∀ (x0:List SNode),FnK Tryz.prog 4 [T.ro ((L 3 eSNode) x0)] (fun r:Bool => [B r]) (fun _ => []) (f_a6 x0)):=⟨Tryz.call4,fun x0 => iM Tryz.func4⟩
instance:HS Tryz.f5.results [(2,7,0,.tr 6 21)]:=⟨⟩
instance t_a9:FI Tryz.prog 5 (∀ (x0:List SNode),FnK Tryz.prog 5 [T.ro ((L 3 eSNode) x0)] (fun r:Bool => [B r]) (fun _ => []) (f_a9 x0)):=⟨Tryz.call5,fun x0 => iM Tryz.func5⟩
end
end Go.Wk
