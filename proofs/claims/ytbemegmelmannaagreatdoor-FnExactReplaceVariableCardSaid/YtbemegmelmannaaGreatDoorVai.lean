/- x -/
import Derived.Test.YtbemegmelmannaaGreatDoorVaa
import Derived.Test.YtbemegmelmannaaGreatDoorVab
import Derived.Test.YtbemegmelmannaaGreatDoorVac
import Derived.Test.YtbemegmelmannaaGreatDoorVaf
import Derived.Test.YtbemegmelmannaaGreatDoorVad
import Derived.Test.YtbemegmelmannaaGreatDoorVag
import Derived.Test.YtbemegmelmannaaGreatDoorVah
import Derived.Test.YtbemegmelmannaaGreatDoorWT
namespace Go.Wk
open Go Go.Proofs Go.Ab
set_option maxRecDepth 100000
set_option maxHeartbeats 4000000
section
attribute [local irreducible] RW CW DK OkL Ok Andthen InBlock Round RetG XS.post rng quoO remO ixO sliceO appO appzO lenOk loopO GTo Ghost FnC FnK LocL OptL Kp BsL BuL RpL Bk Lc JQ AK
instance:HS Tryz.f98.results [(2,2,0,.tr 9 14),(2,6,0,.tr 9 25),(2,7,0,.tr 10 30)]:=⟨⟩
instance (x0:SPr) (x1:Int):LH (R:=(List Int)) (l1_aC x0 x1) [1,4] [] (fun s1 => [(3,I s1.1),(9,L 1 I s1.2.1),(10,T.ro (lV s1.2.2))]) (.xe 0 [1,4] fun r8 => [(9,L 1 I r8)]):=⟨⟩
instance t_aC:FI Tryz.prog 98 (∀ (x0:SPr) (x1:Int) (x2:List Int) (x3:Int),FnK Tryz.prog 98 [qPr x0,I x1,T.ro (lV x2),I x3] (fun r:(List Int) => [lV r]) (fun _ => []) (f_aC x0 x1 x2 x3)):=⟨Tryz.call98,fun x0 x1 x2 x3 => iM Tryz.func98⟩
instance:HS Tryz.f90.results [(2,2,0,.trq 6 14 [0]),(2,3,0,.tr 8 18),(3,0,0,.tr 19 6)]:=⟨⟩
instance (r1:(List Int) × Bool):LH (R:=(List Int) × Bool) (l1_J r1) [7,19,20] [] (fun s1 => [(8,L 1 I s1.1),(21,I s1.2)]) (.xs (.xe 0 [19,20] fun r9 => [(8,L 1 I r9)]) .xr):=⟨⟩
instance t_J:FI Tryz.prog 90 (∀ (x0:Int) (x1:ByteArray),FnK Tryz.prog 90 [I x0,Str x1] (fun r:(List Int) × Bool => [lV r.1,B r.2]) (fun _ => []) (f_J x0 x1)):=⟨Tryz.call90,fun x0 x1 => iM Tryz.func90⟩
instance t_aS:FI Tryz.prog 110 (∀ (x0:SPr) (x1:Int) (x2:List Int),FnK Tryz.prog 110 [T.ro ((Pt eSPr) x0),I x1,T.ro (lV x2)] (fun r:Bool => [B r]) (fun _ => []) (f_aS x0 x1 x2)):=⟨Tryz.call110,fun x0 x1 x2 => iM Tryz.func110⟩
instance:HS Tryz.f137.results [(2,2,0,.tr 7 10)]:=⟨⟩
instance (x0:SPr) (x1:List Int) (x2:Int):LH (R:=(List Int)) (l1_at x0 x1 x2) [0,1,11] [] (fun s1 => [(7,L 1 I s1.1),(12,I s1.2)]) (.xe 0 [0,1,11] fun r4 => [(7,L 1 I r4)]):=⟨⟩
instance t_at:FI Tryz.prog 137 (∀ (x0:SPr) (x1:List Int) (x2:Int),FnK Tryz.prog 137 [T.ro ((Pt eSPr) x0),T.ro (lV x1),I x2] (fun r:(List Int) => [lV r]) (fun _ => []) (f_at x0 x1 x2)):=⟨Tryz.call137,fun x0 x1 x2 => iM Tryz.func137⟩
instance:HS Tryz.f138.results [(2,2,0,.tr 7 12)]:=⟨⟩
instance (x0:SPr) (v3:List Int) (v6:Int):LH (R:=(List Int)) (l1_F x0 v3 v6) [0,1,2,9,19,20,21,32] [] (fun s6 => [(7,L 1 I s6.1),(33,I s6.2)]) (.xe 2 [9,32] fun r9 => [(7,L 1 I r9)]):=⟨⟩
instance (x0:SPr) (x1:Int) (x2:List Int) (v2:List (List Int)):LH (R:=(List Int)) (l2_F x0 x1 x2 v2) [0,1,2,19,20] [] (fun s5 => [(7,L 1 I s5.1),(21,I s5.2)]) (.xe 0 [0,1,2,19,20] fun r11 => [(7,L 1 I r11)]):=⟨⟩
instance t_F:FI Tryz.prog 138 (∀ (x0:SPr) (x1:Int) (x2:List Int),FnK Tryz.prog 138 [T.ro ((Pt eSPr) x0),I x1,T.ro (lV x2)] (fun r:(List Int) => [lV r]) (fun _ => []) (f_F x0 x1 x2)):=⟨Tryz.call138,fun x0 x1 x2 => iM Tryz.func138⟩
instance:HS Tryz.f159.results [(2,2,0,.tr 5 9),(2,3,0,.tr 6 12)]:=⟨⟩
instance (x0:SPr) (s5:(List Int) × (List Int) × Int):LH (R:=(List Int)) (l1_M x0 s5) [0,7,14,15] [] (fun s6 => [(5,L 1 I s6.1),(6,L 1 I s6.2)]) (.xe 2 [7] fun r6 => [(5,L 1 I r6.1),(6,L 1 I r6.2)]):=⟨⟩
instance (x0:SPr) (r1:(List Int)):LH (R:=(List Int)) (l2_M x0 r1) [0,14] [] (fun s5 => [(5,L 1 I s5.1),(6,L 1 I s5.2.1),(15,I s5.2.2)]) (.xe 0 [0,14] fun r8 => [(6,L 1 I r8)]):=⟨⟩
instance t_M:FI Tryz.prog 159 (∀ (x0:SPr) (x1:List Int),FnK Tryz.prog 159 [T.ro ((Pt eSPr) x0),T.ro (lV x1)] (fun r:(List Int) => [lV r]) (fun _ => []) (f_M x0 x1)):=⟨Tryz.call159,fun x0 x1 => iM Tryz.func159⟩
instance:HS Tryz.f158.results [(2,2,0,.tr 7 9)]:=⟨⟩
instance t_aT:FI Tryz.prog 158 (∀ (x0:SPr) (x1:List Int) (x2:List Int),FnK Tryz.prog 158 [T.ro ((Pt eSPr) x0),T.ro (lV x1),T.ro (lV x2)] (fun r:(List Int) => [lV r]) (fun _ => []) (f_aT x0 x1 x2)):=⟨Tryz.call158,fun x0 x1 x2 => iM Tryz.func158⟩
instance t_ah:FI Tryz.prog 44 (∀ (x0:SexprReader),FnK Tryz.prog 44 [T.ptr (eSexprReader x0)] (fun r:ByteArray × Bool × SexprReader => [Str r.1,B r.2.1]) (fun r => [(0,(Pt eSexprReader) r.2.2)]) (f_ah x0)):=⟨Tryz.call44,fun x0 => iM Tryz.func44⟩
instance (x0:List SNode):LH (R:=Int) (l1_aH x0) [0] [] (fun s1 => [(1,I s1.1),(5,I s1.2)]) (.xs (.xe 0 [0] fun r5 => [(1,I r5)]) .xr):=⟨⟩
instance t_aH:FI Tryz.prog 12 (∀ (x0:List SNode) (x1:Int),FnK Tryz.prog 12 [T.ro ((L 3 eSNode) x0),I x1] (fun r:Int => [I r]) (fun _ => []) (f_aH x0 x1)):=⟨Tryz.call12,fun x0 x1 => iM Tryz.func12⟩
end
end Go.Wk
