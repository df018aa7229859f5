/- x -/
import Derived.Test.YtbemegmelmannaaGreatDoorVaq
import Derived.Test.YtbemegmelmannaaGreatDoorWT
import Derived.Test.YtbemegmelmannaaGreatDoorVac
import Derived.Test.YtbemegmelmannaaGreatDoorVab
import Derived.Test.YtbemegmelmannaaGreatDoorVai
import Derived.Test.YtbemegmelmannaaGreatDoorVaj
namespace Go.Wk
open Go Go.Proofs Go.Ab
set_option maxRecDepth 100000
set_option maxHeartbeats 4000000
section
attribute [local irreducible] RW CW DK OkL Ok Andthen InBlock Round RetG XS.post rng quoO remO ixO sliceO appO appzO lenOk loopO GTo Ghost FnC FnK LocL OptL Kp BsL BuL RpL Bk Lc JQ AK
instance:HS Tryz.f65.results [(1,3,0,.trf 9 0 8 [0,0]),(1,3,1,.trf 9 1 8 [1,0]),(1,3,2,.trf 9 2 8 [2,0]),(1,2,0,.trf 11 0 3 [0,0]),(1,2,1,.trf 11 1 3 [1,0]),(1,2,2,.trf 11 2 3 [2,0])]:=⟨⟩
instance t_a2:FI Tryz.prog 65 (∀ (x0:SlibraryGroup),FnK Tryz.prog 65 [eSlibraryGroup x0] (fun r:SPr => [eSPr r]) (fun _ => []) (f_a2 x0)):=⟨Tryz.call65,fun x0 => iM Tryz.func65⟩
end
end Go.Wk

namespace Go.Wk
open Go Go.Proofs Go.Ab
set_option maxRecDepth 100000
set_option maxHeartbeats 4000000
section
attribute [local irreducible] RW CW DK OkL Ok Andthen InBlock Round RetG XS.post rng quoO remO ixO sliceO appO appzO lenOk loopO GTo Ghost FnC FnK LocL OptL Kp BsL BuL RpL Bk Lc JQ AK
instance (x0:ByteArray) (r1:(List SlibraryGroup)):LH (R:=SPr × Int) (l1_av x0 r1) [0,2,6,7] [] (fun s1 => [(8,I s1)]) (.xs (.xe 0 [0,6,7] fun _ => []) .xr):=⟨⟩
instance t_av:FI Tryz.prog 49 (∀ (x0:ByteArray),FnK Tryz.prog 49 [Str x0] (fun r:SPr × Int => [eSPr r.1,I r.2]) (fun _ => []) (f_av x0)):=⟨Tryz.call49,fun x0 => iM Tryz.func49⟩
end
end Go.Wk

namespace Go.Wk
open Go Go.Proofs Go.Ab
set_option maxRecDepth 100000
set_option maxHeartbeats 4000000
section
attribute [local irreducible] RW CW DK OkL Ok Andthen InBlock Round RetG XS.post rng quoO remO ixO sliceO appO appzO lenOk loopO GTo Ghost FnC FnK LocL OptL Kp BsL BuL RpL Bk Lc JQ AK
instance:HS Tryz.f118.results [(2,23,0,.tr 12 152),(2,26,0,.tr 12 165)]:=⟨⟩
instance (x0:SPr) (x1:Int):LH (R:=SFault) (l1_n x0 x1) [0,1,4,5,6] [] (fun s1 => [(7,I s1)]) (.xs (.xe 0 [] fun _ => []) .xr):=⟨⟩
instance (x0:SPr) (x1:Int) (s7:Int):LH (R:=SFault) (l2_n x0 x1 s7) [0,1,4,5,6,8] [] (fun s8 => [(9,I s8)]) (.xs (.xe 4 [] fun _ => []) .xr):=⟨⟩
instance (x0:SPr) (x1:Int):LH (R:=SFault) (l3_n x0 x1) [0,1,4,5,6] [] (fun s7 => [(8,I s7)]) (.xs (.xe 2 [] fun _ => []) .xr):=⟨⟩
instance (x0:SPr) (x1:Int) (v39:Int):LH (R:=SFault) (l4_n x0 x1 v39) [0,1,4,5,6,10,11,159] [] (fun s16 => [(12,L 1 I s16.1),(160,I s16.2)]) (.xe 8 [159] fun r42 => [(12,L 1 I r42)]):=⟨⟩
instance (x0:SPr) (x1:Int) (v34:List Int):LH (R:=SFault) (l5_n x0 x1 v34) [0,1,4,5,6,10] [] (fun s15 => [(11,I s15)]) (.xs (.xe 6 [0,1,5,6,10] fun _ => []) .xr):=⟨⟩
instance t_n:FI Tryz.prog 118 (∀ (x0:SPr) (x1:Int),FnK Tryz.prog 118 [T.ro ((Pt eSPr) x0),I x1] (fun r:SFault => [eSFault r]) (fun _ => []) (f_n x0 x1)):=⟨Tryz.call118,fun x0 x1 => iM Tryz.func118⟩
end
end Go.Wk
