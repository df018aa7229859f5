/- x -/
import Derived.Test.YtbemegmelmannaaGreatDoorVaa
import Derived.Test.YtbemegmelmannaaGreatDoorVac
import Derived.Test.YtbemegmelmannaaGreatDoorWT
namespace Go.Wk
open Go Go.Proofs Go.Ab
set_option maxRecDepth 100000
set_option maxHeartbeats 4000000
section
attribute [local irreducible] RW CW DK OkL Ok Andthen InBlock Round RetG XS.post rng quoO remO ixO sliceO appO appzO lenOk loopO GTo Ghost FnC FnK LocL OptL Kp BsL BuL RpL Bk Lc JQ AK
instance:HS Tryz.f37.results [(2,2,0,.tr 5 8)]:=⟨⟩
instance (x0:ByteArray) (r1:(List Sl30Row)):LH (R:=Int × Int × Int) (l1_aw x0 r1) [0,5] [] (fun s1 => [(6,I s1.1),(7,I s1.2)]) (.xs (.xe 0 [0,5] fun _ => []) .xr):=⟨⟩
instance t_aw:FI Tryz.prog 37 (∀ (x0:ByteArray),FnK Tryz.prog 37 [Str x0] (fun r:Int × Int × Int => [I r.1,I r.2.1,I r.2.2]) (fun _ => []) (f_aw x0)):=⟨Tryz.call37,fun x0 => iM Tryz.func37⟩
instance (x0:List Int) (x1:List Int) (x2:Int):LH (R:=Bool) (l1_as x0 x1 x2) [0,1,2] [] (fun s1 => [(7,I s1)]) (.xs (.xe 0 [0,1,2] fun _ => []) .xr):=⟨⟩
instance t_as:FI Tryz.prog 78 (∀ (x0:List Int) (x1:List Int) (x2:Int),FnK Tryz.prog 78 [T.ro (lV x0),T.ro (lV x1),I x2] (fun r:Bool => [B r]) (fun _ => []) (f_as x0 x1 x2)):=⟨Tryz.call78,fun x0 x1 x2 => iM Tryz.func78⟩
instance:HS Tryz.f100.results [(2,5,0,.tr 10 25),(2,5,1,.tr 11 27),(2,9,0,.tr 10 45),(2,12,0,.tr 13 51),(2,16,0,.tr 13 84),(2,17,0,.tr 15 86)]:=⟨⟩
instance (g_f:SPr → Int → (List Int) → Option (List Int)) (x0:SPr) (x1:Int) (x3:List Int):LH (R:=(List Int)) (l1_a g_f x0 x1 x3) [1,2,3,4,11] [] (fun s1 => [(10,L 1 I s1.1),(12,I s1.2)]) (.xe 0 [] fun r9 => [(10,L 1 I r9)]):=⟨⟩
theorem tn_a {g_f:SPr → Int → (List Int) → Option (List Int)} [FI Tryz.prog 99 (∀ (x0:SPr) (x1:Int) (x2:List Int),FnK Tryz.prog 99 [qPr x0,I x1,T.ro (lV x2)] (fun r:(List Int) => [lV r]) (fun _ => []) (g_f x0 x1 x2))] {g_a:SPr → Int → (List Int) → (List Int) → Option (List Int)} [FI Tryz.prog 100 (∀ (x0:SPr) (x1:Int) (x2:List Int) (x3:List Int),FnK Tryz.prog 100 [qPr x0,I x1,T.ro (lV x2),T.ro (lV x3)] (fun r:(List Int) => [lV r]) (fun _ => []) (g_a x0 x1 x2 x3))]:∀ (x0:SPr) (x1:Int) (x2:List Int) (x3:List Int),FnK Tryz.prog 100 [qPr x0,I x1,T.ro (lV x2),T.ro (lV x3)] (fun r:(List Int) => [lV r]) (fun _ => []) (b_a g_f g_a x0 x1 x2 x3):=fun x0 x1 x2 x3 => iM Tryz.func100
theorem tb_a {g_f:SPr → Int → (List Int) → Option (List Int)} (H_f:∀ (x0:SPr) (x1:Int) (x2:List Int) r,g_f x0 x1 x2 = some r → FnC Tryz.prog 99 [qPr x0,I x1,T.ro (lV x2)] [lV r] []) {g_a:SPr → Int → (List Int) → (List Int) → Option (List Int)} (H_a:∀ (x0:SPr) (x1:Int) (x2:List Int) (x3:List Int) r,g_a x0 x1 x2 x3 = some r → FnC Tryz.prog 100 [qPr x0,I x1,T.ro (lV x2),T.ro (lV x3)] [lV r] []) (x0:SPr) (x1:Int) (x2:List Int) (x3:List Int) (r:(List Int)) (h:b_a g_f g_a x0 x1 x2 x3 = some r):FnC Tryz.prog 100 [qPr x0,I x1,T.ro (lV x2),T.ro (lV x3)] [lV r] []:=by
 have:FI Tryz.prog 99 (∀ (x0:SPr) (x1:Int) (x2:List Int),FnK Tryz.prog 99 [qPr x0,I x1,T.ro (lV x2)] (fun r:(List Int) => [lV r]) (fun _ => []) (g_f x0 x1 x2)):=⟨Tryz.call99,fun x0 x1 x2 => FnK.mk (H_f x0 x1 x2)⟩
 have:FI Tryz.prog 100 (∀ (x0:SPr) (x1:Int) (x2:List Int) (x3:List Int),FnK Tryz.prog 100 [qPr x0,I x1,T.ro (lV x2),T.ro (lV x3)] (fun r:(List Int) => [lV r]) (fun _ => []) (g_a x0 x1 x2 x3)):=⟨Tryz.call100,fun x0 x1 x2 x3 => FnK.mk (H_a x0 x1 x2 x3)⟩
 exact (tn_a x0 x1 x2 x3).go h
instance t_ak:FI Tryz.prog 53 (∀ (x0:Sl36Reader) (x1:Int),FnK Tryz.prog 53 [T.ptr (eSl36Reader x0),(IK .u8) x1] (fun _:Sl36Reader => []) (fun r => [(0,(Pt eSl36Reader) r)]) (f_ak x0 x1)):=⟨Tryz.call53,fun x0 x1 => iM Tryz.func53⟩
end
theorem u_az (x0:ByteArray) (x1:Int) (r:Int) (h:f_az x0 x1 = some r):FnC Tryz.prog 68 [Str x0,IK .u8 x1] [I r] []:=Go.Ab.tk_strings_IndexByte x0 x1 r h
instance t_az:FI Tryz.prog 68 (∀ (x0:ByteArray) (x1:Int),FnK Tryz.prog 68 [Str x0,(IK .u8) x1] (fun r:Int => [I r]) (fun _ => []) (f_az x0 x1)):=⟨Tryz.call68,fun x0 x1 => FnK.mk (u_az x0 x1)⟩
section
attribute [local irreducible] RW CW DK OkL Ok Andthen InBlock Round RetG XS.post rng quoO remO ixO sliceO appO appzO lenOk loopO GTo Ghost FnC FnK LocL OptL Kp BsL BuL RpL Bk Lc JQ AK
instance t_a5:FI Tryz.prog 22 (∀ (x0:SNode) (x1:SNode),FnK Tryz.prog 22 [eSNode x0,eSNode x1] (fun r:Bool => [B r]) (fun _ => []) (f_a5 x0 x1)):=⟨Tryz.call22,fun x0 x1 => iM Tryz.func22⟩
end
end Go.Wk
