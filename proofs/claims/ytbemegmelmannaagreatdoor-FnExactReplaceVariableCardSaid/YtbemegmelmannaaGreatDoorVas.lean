/- x -/
import Derived.Test.YtbemegmelmannaaGreatDoorVar
import Derived.Test.YtbemegmelmannaaGreatDoorWT
import Derived.Test.YtbemegmelmannaaGreatDoorVaj
import Derived.Test.YtbemegmelmannaaGreatDoorVaq
import Derived.Test.YtbemegmelmannaaGreatDoorVac
namespace Go.Wk
open Go Go.Proofs Go.Ab
set_option maxRecDepth 100000
set_option maxHeartbeats 4000000
section
attribute [local irreducible] RW CW DK OkL Ok Andthen InBlock Round RetG XS.post rng quoO remO ixO sliceO appO appzO lenOk loopO GTo Ghost FnC FnK LocL OptL Kp BsL BuL RpL Bk Lc JQ AK
instance (x0:SPr):LH (R:=Int) (l1_aD x0) [0] [] (fun s1 => [(3,I s1)]) (.xe 0 [0] fun r4 => [(3,I r4)]):=⟨⟩
instance t_aD:FI Tryz.prog 94 (∀ (x0:SPr),FnK Tryz.prog 94 [T.ro ((Pt eSPr) x0)] (fun r:Int => [I r]) (fun _ => []) (f_aD x0)):=⟨Tryz.call94,fun x0 => iM Tryz.func94⟩
end
end Go.Wk

namespace Go.Wk
open Go Go.Proofs Go.Ab
set_option maxRecDepth 100000
set_option maxHeartbeats 4000000
section
attribute [local irreducible] RW CW DK OkL Ok Andthen InBlock Round RetG XS.post rng quoO remO ixO sliceO appO appzO lenOk loopO GTo Ghost FnC FnK LocL OptL Kp BsL BuL RpL Bk Lc JQ AK
instance t_a0:FI Tryz.prog 67 (∀ (x0:SPr),FnK Tryz.prog 67 [qPr x0] (fun r:Bool => [B r]) (fun _ => []) (f_a0 x0)):=⟨Tryz.call67,fun x0 => iM Tryz.func67⟩
end
end Go.Wk

namespace Go.Wk
open Go Go.Proofs Go.Ab
set_option maxRecDepth 100000
set_option maxHeartbeats 4000000
section
attribute [local irreducible] RW CW DK OkL Ok Andthen InBlock Round RetG XS.post rng quoO remO ixO sliceO appO appzO lenOk loopO GTo Ghost FnC FnK LocL OptL Kp BsL BuL RpL Bk Lc JQ AK
instance:HS Tryz.f50.results [(1,3,0,.trf 8 0 7 [0,0]),(1,3,1,.trf 8 1 7 [1,0]),(1,3,2,.trf 8 2 7 [2,0])]:=⟨⟩
instance t_aV:FI Tryz.prog 50 (∀ (x0:ByteArray),FnK Tryz.prog 50 [Str x0] (fun r:Bool => [B r]) (fun _ => []) (f_aV x0)):=⟨Tryz.call50,fun x0 => iM Tryz.func50⟩
end
end Go.Wk

namespace Go.Wk
open Go Go.Proofs Go.Ab
set_option maxRecDepth 100000
set_option maxHeartbeats 4000000
section
attribute [local irreducible] RW CW DK OkL Ok Andthen InBlock Round RetG XS.post rng quoO remO ixO sliceO appO appzO lenOk loopO GTo Ghost FnC FnK LocL OptL Kp BsL BuL RpL Bk Lc JQ AK
instance:JNs Tryz.f40.results:=⟨⟩
instance:HS Tryz.f40.results [(1,3,0,.trf 9 0 8 [0,0]),(1,3,1,.trf 9 1 8 [1,0]),(1,3,2,.trf 9 2 8 [2,0])]:=⟨⟩
instance (x0:SNode) (r1:SPr × Int):JN (l1_q x0 r1) 1000 2 1:=⟨⟩
instance (x0:SNode) (r1:SPr × Int):LH (R:=Int) (l1_q x0 r1) [1,4] [] (fun _ => []) (.xe 1000 [4] fun r2 => [(11,B r2)]):=⟨⟩
instance (x0:SNode):JN (l2_q x0) 1001 4 1:=⟨⟩
instance (x0:SNode):LH (R:=Int) (l2_q x0) [1] [] (fun _ => []) (.xe 1001 [] fun r4 => [(24,B r4)]):=⟨⟩
instance (x0:SNode):JN (l3_q x0) 1002 6 1:=⟨⟩
instance (x0:SNode):LH (R:=Int) (l3_q x0) [1] [] (fun _ => []) (.xe 1002 [] fun r6 => [(38,B r6)]):=⟨⟩
instance (x0:SNode):JN (l4_q x0) 1003 8 1:=⟨⟩
instance (x0:SNode):LH (R:=Int) (l4_q x0) [1] [] (fun _ => []) (.xe 1003 [] fun r7 => [(52,B r7)]):=⟨⟩
instance t_q:FI Tryz.prog 40 (∀ (x0:SNode),FnK Tryz.prog 40 [eSNode x0] (fun r:Int => [I r]) (fun _ => []) (f_q x0)):=⟨Tryz.call40,fun x0 => iM Tryz.func40⟩
end
end Go.Wk

namespace Go.Wk
open Go Go.Proofs Go.Ab
set_option maxRecDepth 100000
set_option maxHeartbeats 4000000
section
attribute [local irreducible] RW CW DK OkL Ok Andthen InBlock Round RetG XS.post rng quoO remO ixO sliceO appO appzO lenOk loopO GTo Ghost FnC FnK LocL OptL Kp BsL BuL RpL Bk Lc JQ AK
instance (x0:List SNode):LH (R:=Bool) (l1_aa x0) [15,16] [] (fun s1 => [(3,I s1.1),(17,I s1.2)]) (.xs (.xe 0 [15,16] fun r6 => [(3,I r6)]) .xr):=⟨⟩
instance t_aa:FI Tryz.prog 27 (∀ (x0:List SNode),FnK Tryz.prog 27 [T.ro ((L 3 eSNode) x0)] (fun r:Bool => [B r]) (fun _ => []) (f_aa x0)):=⟨Tryz.call27,fun x0 => iM Tryz.func27⟩
end
end Go.Wk
