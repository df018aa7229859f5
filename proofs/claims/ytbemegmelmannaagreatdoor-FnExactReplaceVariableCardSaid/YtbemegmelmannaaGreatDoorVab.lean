/- x -/
import Derived.Test.YtbemegmelmannaaGreatDoorWT
namespace Go.Wk
open Go Go.Proofs Go.Ab
set_option maxRecDepth 100000
set_option maxHeartbeats 4000000
section
attribute [local irreducible] RW CW DK OkL Ok Andthen InBlock Round RetG XS.post rng quoO remO ixO sliceO appO appzO lenOk loopO GTo Ghost FnC FnK LocL OptL Kp BsL BuL RpL Bk Lc JQ AK
instance t_aZ:FI Tryz.prog 70 (∀ (x0:Int),FnK Tryz.prog 70 [I x0] (fun r:Bool => [B r]) (fun _ => []) (f_aZ x0)):=⟨Tryz.call70,fun x0 => iM Tryz.func70⟩
instance (x0:List Int):LH (R:=Int) (l1_al x0) [0] [] (fun s1 => [(3,I s1.1),(4,I s1.2)]) (.xe 0 [0] fun r5 => [(3,I r5)]):=⟨⟩
instance t_al:FI Tryz.prog 71 (∀ (x0:List Int),FnK Tryz.prog 71 [T.ro (lV x0)] (fun r:Int => [I r]) (fun _ => []) (f_al x0)):=⟨Tryz.call71,fun x0 => iM Tryz.func71⟩
instance:HS Tryz.f73.results [(2,2,0,.tr 5 7)]:=⟨⟩
instance t_aM:FI Tryz.prog 73 (∀ (x0:Int) (x1:Int),FnK Tryz.prog 73 [I x0,I x1] (fun r:(List Int) => [lV r]) (fun _ => []) (f_aM x0 x1)):=⟨Tryz.call73,fun x0 x1 => iM Tryz.func73⟩
instance (x0:List Int):LH (R:=Bool) (l1_aO x0) [0] [] (fun s1 => [(3,I s1)]) (.xs (.xe 0 [0] fun _ => []) .xr):=⟨⟩
instance t_aO:FI Tryz.prog 79 (∀ (x0:List Int),FnK Tryz.prog 79 [T.ro (lV x0)] (fun r:Bool => [B r]) (fun _ => []) (f_aO x0)):=⟨Tryz.call79,fun x0 => iM Tryz.func79⟩
instance:HS Tryz.f81.results [(2,4,0,.tr 3 8),(0,29,0,.tr 20 3),(2,6,0,.tr 3 29),(2,6,1,.tr 3 39),(0,39,0,.tr 30 3)]:=⟨⟩
instance (x0:List Int):LH (R:=ByteArray) (l1_W x0) [0] [] (fun s1 => [(3,L 1 (IK .u8) s1.1),(4,I s1.2)]) (.xe 0 [0] fun r12 => [(3,L 1 (IK .u8) r12)]):=⟨⟩
instance t_W:FI Tryz.prog 81 (∀ (x0:List Int),FnK Tryz.prog 81 [T.ro (lV x0)] (fun r:ByteArray => [Str r]) (fun _ => []) (f_W x0)):=⟨Tryz.call81,fun x0 => iM Tryz.func81⟩
instance:HS Tryz.f82.results [(2,2,0,.tr 3 6),(0,25,0,.tr 21 3),(2,7,0,.tr 3 25)]:=⟨⟩
instance (x0:List Int) (s5:(List Int) × Int):LH (R:=(List Int)) (l1_G x0 s5) [0,4] [] (fun s6 => [(3,L 1 I s6.1),(5,I s6.2)]) (.xe 2 [] fun r5 => [(3,L 1 I r5)]):=⟨⟩
instance (x0:List Int):LH (R:=(List Int)) (l2_G x0) [0] [] (fun s5 => [(3,L 1 I s5.1),(4,I s5.2)]) (.xe 0 [0] fun r7 => [(3,L 1 I r7)]):=⟨⟩
instance t_G:FI Tryz.prog 82 (∀ (x0:List Int),FnK Tryz.prog 82 [T.ro (lV x0)] (fun r:(List Int) => [lV r]) (fun _ => []) (f_G x0)):=⟨Tryz.call82,fun x0 => iM Tryz.func82⟩
end
theorem u_L (x0:ByteArray) (x1:ByteArray) (r:List ByteArray) (h:f_L x0 x1 = some r):FnC Tryz.prog 86 [Str x0,Str x1] [T.ro (L 1 Str r)] []:=Go.Ab.tk_strings_Split x0 x1 r h
instance t_L:FI Tryz.prog 86 (∀ (x0:ByteArray) (x1:ByteArray),FnK Tryz.prog 86 [Str x0,Str x1] (fun r:(List ByteArray) => [T.ro ((L 1 Str) r)]) (fun _ => []) (f_L x0 x1)):=⟨Tryz.call86,fun x0 x1 => FnK.mk (u_L x0 x1)⟩
theorem u_ad (x0:ByteArray) (x1:Int) (x2:Int) (r:Int × Bool) (h:f_ad x0 x1 x2 = some r):FnC Tryz.prog 87 [Str x0,I x1,I x2] [I r.1,T.ro (Ev r.2)] []:=Go.Ab.tk_strconv_ParseInt x0 x1 x2 r h
instance t_ad:FI Tryz.prog 87 (∀ (x0:ByteArray) (x1:Int) (x2:Int),FnK Tryz.prog 87 [Str x0,I x1,I x2] (fun r:Int × Bool => [I r.1,T.ro (Ev r.2)]) (fun _ => []) (f_ad x0 x1 x2)):=⟨Tryz.call87,fun x0 x1 x2 => FnK.mk (u_ad x0 x1 x2)⟩
section
attribute [local irreducible] RW CW DK OkL Ok Andthen InBlock Round RetG XS.post rng quoO remO ixO sliceO appO appzO lenOk loopO GTo Ghost FnC FnK LocL OptL Kp BsL BuL RpL Bk Lc JQ AK
instance:HS Tryz.f106.results [(2,2,0,.tr 5 7)]:=⟨⟩
instance t_au:FI Tryz.prog 106 (∀ (x0:Int) (x1:Int),FnK Tryz.prog 106 [I x0,I x1] (fun r:(List Int) => [lV r]) (fun _ => []) (f_au x0 x1)):=⟨Tryz.call106,fun x0 x1 => iM Tryz.func106⟩
end
theorem u_E (x0:ByteArray) (x1:ByteArray) (r:ByteArray × ByteArray × Bool) (h:f_E x0 x1 = some r):FnC Tryz.prog 89 [Str x0,Str x1] [Str r.1,Str r.2.1,B r.2.2] []:=Go.Ab.tk_strings_Cut x0 x1 r h
instance t_E:FI Tryz.prog 89 (∀ (x0:ByteArray) (x1:ByteArray),FnK Tryz.prog 89 [Str x0,Str x1] (fun r:ByteArray × ByteArray × Bool => [Str r.1,Str r.2.1,B r.2.2]) (fun _ => []) (f_E x0 x1)):=⟨Tryz.call89,fun x0 x1 => FnK.mk (u_E x0 x1)⟩
section
attribute [local irreducible] RW CW DK OkL Ok Andthen InBlock Round RetG XS.post rng quoO remO ixO sliceO appO appzO lenOk loopO GTo Ghost FnC FnK LocL OptL Kp BsL BuL RpL Bk Lc JQ AK
instance t_ar:FI Tryz.prog 131 (∀ (x0:Int) (x1:Int) (x2:Int),FnK Tryz.prog 131 [I x0,I x1,I x2] (fun r:Bool => [B r]) (fun _ => []) (f_ar x0 x1 x2)):=⟨Tryz.call131,fun x0 x1 x2 => iM Tryz.func131⟩
instance t_X:FI Tryz.prog 91 (∀ (x0:Int) (x1:ByteArray),FnK Tryz.prog 91 [I x0,Str x1] (fun r:Int × Bool => [I r.1,B r.2]) (fun _ => []) (f_X x0 x1)):=⟨Tryz.call91,fun x0 x1 => iM Tryz.func91⟩
instance t_aY:FI Tryz.prog 109 (∀ (x0:Int),FnK Tryz.prog 109 [I x0] (fun r:Bool => [B r]) (fun _ => []) (f_aY x0)):=⟨Tryz.call109,fun x0 => iM Tryz.func109⟩
instance (x0:List Int):LH (R:=Bool) (l1_ae x0) [5,6] [] (fun s1 => [(7,I s1)]) (.xs (.xe 0 [5,6] fun _ => []) .xr):=⟨⟩
instance t_ae:FI Tryz.prog 113 (∀ (x0:List Int),FnK Tryz.prog 113 [T.ro (lV x0)] (fun r:Bool => [B r]) (fun _ => []) (f_ae x0)):=⟨Tryz.call113,fun x0 => iM Tryz.func113⟩
end
theorem u_aA (x0:Int) (x1:Int) (r:ByteArray) (h:f_aA x0 x1 = some r):FnC Tryz.prog 111 [I x0,I x1] [Str r] []:=Go.Ab.tk_strconv_FormatInt x0 x1 r h
instance t_aA:FI Tryz.prog 111 (∀ (x0:Int) (x1:Int),FnK Tryz.prog 111 [I x0,I x1] (fun r:ByteArray => [Str r]) (fun _ => []) (f_aA x0 x1)):=⟨Tryz.call111,fun x0 x1 => FnK.mk (u_aA x0 x1)⟩
theorem u_N (x0:List ByteArray) (x1:ByteArray) (r:ByteArray) (h:f_N x0 x1 = some r):FnC Tryz.prog 112 [T.ro (L 1 Str x0),Str x1] [Str r] []:=Go.Ab.tk_strings_Join x0 x1 r h
instance t_N:FI Tryz.prog 112 (∀ (x0:List ByteArray) (x1:ByteArray),FnK Tryz.prog 112 [T.ro ((L 1 Str) x0),Str x1] (fun r:ByteArray => [Str r]) (fun _ => []) (f_N x0 x1)):=⟨Tryz.call112,fun x0 x1 => FnK.mk (u_N x0 x1)⟩
theorem u_ai (x0:Int) (r:ByteArray) (h:f_ai x0 = some r):FnC Tryz.prog 114 [I x0] [Str r] []:=by
 refine fB Tryz.func114 (fun St W w0 v => ?_)
 refine sR (a_as ?_)
 refine rN (sR (a_mv ?_))
 obtain ⟨v1,hv1,h⟩:=bd h
 refine a_add ?_
 refine oP (x_convU Tryz.underlying3 Tryz.underlying21 rfl rfl) ?_
 refine oP (x_r2s Tryz.underlying21 Tryz.underlying9 rfl rfl) ?_
 refine a_as ?_
 refine rN (CW.ret ?_)
 obtain rfl:=sI h
 exact rT
instance t_ai:FI Tryz.prog 114 (∀ (x0:Int),FnK Tryz.prog 114 [I x0] (fun r:ByteArray => [Str r]) (fun _ => []) (f_ai x0)):=⟨Tryz.call114,fun x0 => FnK.mk (u_ai x0)⟩
section
attribute [local irreducible] RW CW DK OkL Ok Andthen InBlock Round RetG XS.post rng quoO remO ixO sliceO appO appzO lenOk loopO GTo Ghost FnC FnK LocL OptL Kp BsL BuL RpL Bk Lc JQ AK
instance (x0:List Int) (x1:List Int):LH (R:=Bool) (l1_af x0 x1) [0,1,12] [] (fun s1 => [(13,I s1)]) (.xs (.xe 0 [0,1,12] fun _ => []) .xr):=⟨⟩
instance t_af:FI Tryz.prog 117 (∀ (x0:List Int) (x1:List Int),FnK Tryz.prog 117 [T.ro (lV x0),T.ro (lV x1)] (fun r:Bool => [B r]) (fun _ => []) (f_af x0 x1)):=⟨Tryz.call117,fun x0 x1 => iM Tryz.func117⟩
end
end Go.Wk
