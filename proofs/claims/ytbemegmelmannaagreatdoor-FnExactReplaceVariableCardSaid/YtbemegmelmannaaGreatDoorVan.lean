/- x -/
import Derived.Test.YtbemegmelmannaaGreatDoorVaa
import Derived.Test.YtbemegmelmannaaGreatDoorVab
import Derived.Test.YtbemegmelmannaaGreatDoorVad
import Derived.Test.YtbemegmelmannaaGreatDoorVah
import Derived.Test.YtbemegmelmannaaGreatDoorVai
import Derived.Test.YtbemegmelmannaaGreatDoorWT
import Derived.Test.YtbemegmelmannaaGreatDoorVam
import Derived.Test.YtbemegmelmannaaGreatDoorVac
namespace Go.Wk
open Go Go.Proofs Go.Ab
set_option maxRecDepth 100000
set_option maxHeartbeats 4000000
section
attribute [local irreducible] RW CW DK OkL Ok Andthen InBlock Round RetG XS.post rng quoO remO ixO sliceO appO appzO lenOk loopO GTo Ghost FnC FnK LocL OptL Kp BsL BuL RpL Bk Lc JQ AK
instance:HS Tryz.f84.results [(2,7,0,.tr 8 49),(2,17,0,.tr 13 113),(2,26,0,.tr 16 155),(2,28,0,.tr 17 16),(2,28,1,.fz 17),(2,28,2,.res 16 17 []),(2,29,0,.tr 17 169),(2,31,0,.tr 17 16),(2,31,1,.fz 17),(2,31,2,.res 16 17 [])]:=⟨⟩
instance (x0:SPr) (x1:Int):LH (R:=SFault) (l1_o x0 x1) [1,2,4,5,6] [] (fun s1 => [(7,I s1)]) (.xs (.xe 0 [] fun _ => []) .xr):=⟨⟩
instance (x0:SPr) (x1:Int) (s7:Int):LH (R:=SFault) (l2_o x0 x1 s7) [1,2,4,5,6,9] [] (fun s8 => [(10,I s8)]) (.xs (.xe 4 [] fun _ => []) .xr):=⟨⟩
instance (x0:SPr) (x1:Int):LH (R:=SFault) (l3_o x0 x1) [1,2,4,5,6] [] (fun s7 => [(9,I s7)]) (.xs (.xe 2 [] fun _ => []) .xr):=⟨⟩
instance (x0:SPr) (x1:Int):LH (R:=SFault) (l4_o x0 x1) [1,2,4,5,6,14,15,16] [16] (fun s16 => [(17,T.ro (lV s16.1)),(18,I s16.2)]) (.xe 8 [] fun r46 => [(17,T.ro (lV r46))]):=⟨⟩
instance (x0:SPr) (x1:Int) (v38:List Int):LH (R:=SFault) (l5_o x0 x1 v38) [1,2,4,5,6,14] [] (fun s15 => [(15,I s15)]) (.xs (.xe 6 [1,2,5,6,14] fun _ => []) .xr):=⟨⟩
instance t_o:FI Tryz.prog 84 (∀ (x0:SPr) (x1:Int),FnK Tryz.prog 84 [qPr x0,I x1] (fun r:SFault => [eSFault r]) (fun _ => []) (f_o x0 x1)):=⟨Tryz.call84,fun x0 x1 => iM Tryz.func84⟩
end
end Go.Wk

namespace Go.Wk
open Go Go.Proofs Go.Ab
set_option maxRecDepth 100000
set_option maxHeartbeats 4000000
section
attribute [local irreducible] RW CW DK OkL Ok Andthen InBlock Round RetG XS.post rng quoO remO ixO sliceO appO appzO lenOk loopO GTo Ghost FnC FnK LocL OptL Kp BsL BuL RpL Bk Lc JQ AK
instance (x0:SPr):LH (R:=SFault) (l1_aE x0) [1,2] [] (fun s1 => [(3,I s1)]) (.xs (.xe 0 [1] fun _ => []) .xr):=⟨⟩
instance t_aE:FI Tryz.prog 63 (∀ (x0:SPr),FnK Tryz.prog 63 [qPr x0] (fun r:SFault => [eSFault r]) (fun _ => []) (f_aE x0)):=⟨Tryz.call63,fun x0 => iM Tryz.func63⟩
end
end Go.Wk

namespace Go.Wk
open Go Go.Proofs Go.Ab
set_option maxRecDepth 100000
set_option maxHeartbeats 4000000
section
attribute [local irreducible] RW CW DK OkL Ok Andthen InBlock Round RetG XS.post rng quoO remO ixO sliceO appO appzO lenOk loopO GTo Ghost FnC FnK LocL OptL Kp BsL BuL RpL Bk Lc JQ AK
instance t_aN:FI Tryz.prog 48 (∀ (x0:SPr),FnK Tryz.prog 48 [qPr x0] (fun r:Bool => [B r]) (fun _ => []) (f_aN x0)):=⟨Tryz.call48,fun x0 => iM Tryz.func48⟩
end
end Go.Wk

namespace Go.Wk
open Go Go.Proofs Go.Ab
set_option maxRecDepth 100000
set_option maxHeartbeats 4000000
section
attribute [local irreducible] RW CW DK OkL Ok Andthen InBlock Round RetG XS.post rng quoO remO ixO sliceO appO appzO lenOk loopO GTo Ghost FnC FnK LocL OptL Kp BsL BuL RpL Bk Lc JQ AK
instance t_aW:FI Tryz.prog 38 (∀ (x0:ByteArray),FnK Tryz.prog 38 [Str x0] (fun r:Bool => [B r]) (fun _ => []) (f_aW x0)):=⟨Tryz.call38,fun x0 => iM Tryz.func38⟩
end
end Go.Wk

namespace Go.Wk
open Go Go.Proofs Go.Ab
set_option maxRecDepth 100000
set_option maxHeartbeats 4000000
section
attribute [local irreducible] RW CW DK OkL Ok Andthen InBlock Round RetG XS.post rng quoO remO ixO sliceO appO appzO lenOk loopO GTo Ghost FnC FnK LocL OptL Kp BsL BuL RpL Bk Lc JQ AK
instance:JNs Tryz.f25.results:=⟨⟩
instance (x0:SNode):JN (l1_D x0) 1004 15 2:=⟨⟩
instance (x0:SNode):LH (R:=Int) (l1_D x0) [1,7] [] (fun _ => []) (.xe 1004 [7] fun r4 => [(54,B r4)]):=⟨⟩
instance t_D:FI Tryz.prog 25 (∀ (x0:SNode),FnK Tryz.prog 25 [eSNode x0] (fun r:Int => [I r]) (fun _ => []) (f_D x0)):=⟨Tryz.call25,fun x0 => iM Tryz.func25⟩
end
end Go.Wk

namespace Go.Wk
open Go Go.Proofs Go.Ab
set_option maxRecDepth 100000
set_option maxHeartbeats 4000000
section
attribute [local irreducible] RW CW DK OkL Ok Andthen InBlock Round RetG XS.post rng quoO remO ixO sliceO appO appzO lenOk loopO GTo Ghost FnC FnK LocL OptL Kp BsL BuL RpL Bk Lc JQ AK
instance (x0:List SNode):LH (R:=Bool) (l1_Z x0) [0] [] (fun s1 => [(3,I s1.1),(4,I s1.2)]) (.xs (.xe 0 [0] fun r6 => [(3,I r6)]) .xr):=⟨⟩
instance t_Z:FI Tryz.prog 13 (∀ (x0:List SNode),FnK Tryz.prog 13 [T.ro ((L 3 eSNode) x0)] (fun r:Bool => [B r]) (fun _ => []) (f_Z x0)):=⟨Tryz.call13,fun x0 => iM Tryz.func13⟩
end
end Go.Wk
