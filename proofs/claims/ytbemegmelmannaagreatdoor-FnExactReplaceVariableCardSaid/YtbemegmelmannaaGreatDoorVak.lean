/- x -/
import Derived.Test.YtbemegmelmannaaGreatDoorVaa
import Derived.Test.YtbemegmelmannaaGreatDoorVaf
import Derived.Test.YtbemegmelmannaaGreatDoorVag
import Derived.Test.YtbemegmelmannaaGreatDoorWT
namespace Go.Wk
open Go Go.Proofs Go.Ab
set_option maxRecDepth 100000
set_option maxHeartbeats 4000000
section
attribute [local irreducible] RW CW DK OkL Ok Andthen InBlock Round RetG XS.post rng quoO remO ixO sliceO appO appzO lenOk loopO GTo Ghost FnC FnK LocL OptL Kp BsL BuL RpL Bk Lc JQ AK
instance:HS Tryz.f60.results [(2,3,0,.tr 7 19),(2,6,0,.trq 8 50 [0]),(2,9,0,.trq 10 59 [0]),(1,103,0,.tr 102 10),(1,4,0,.trf 104 0 14 [0,0]),(1,4,1,.trf 104 1 14 [1,0]),(1,4,2,.trf 104 2 14 [2,0]),(1,4,3,.trf 124 0 14 [0,0]),(1,4,4,.trf 124 1 14 [1,0]),(1,4,5,.trf 124 2 14 [2,0]),(1,123,0,.tr 122 10)]:=⟨⟩
instance t_aQ:FI Tryz.prog 60 (∀ (x0:SPr) (x1:ByteArray),FnK Tryz.prog 60 [qPr x0,Str x1] (fun r:SPr × Bool => [(fun x => T.agg [(Ro lV) x.Orders,(Ro lM) x.Powers,(Ro lC) x.Conjugates]) r.1,B r.2]) (fun _ => []) (f_aQ x0 x1)):=⟨Tryz.call60,fun x0 x1 => iM Tryz.func60⟩
end
end Go.Wk
