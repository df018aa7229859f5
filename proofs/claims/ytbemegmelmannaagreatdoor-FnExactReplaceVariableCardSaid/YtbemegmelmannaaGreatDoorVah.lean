/- x -/
import Derived.Test.YtbemegmelmannaaGreatDoorVaa
import Derived.Test.YtbemegmelmannaaGreatDoorVab
import Derived.Test.YtbemegmelmannaaGreatDoorVad
import Derived.Test.YtbemegmelmannaaGreatDoorWT
namespace Go.Wk
open Go Go.Proofs Go.Ab
set_option maxRecDepth 100000
set_option maxHeartbeats 4000000
section
attribute [local irreducible] RW CW DK OkL Ok Andthen InBlock Round RetG XS.post rng quoO remO ixO sliceO appO appzO lenOk loopO GTo Ghost FnC FnK LocL OptL Kp BsL BuL RpL Bk Lc JQ AK
instance (x0:SPr):LH (R:=Bool) (l1_u x0) [1,3] [] (fun s1 => [(4,I s1)]) (.xs (.xe 0 [] fun _ => []) .xr):=⟨⟩
instance (x0:SPr) (s7:Int):LH (R:=Bool) (l2_u x0 s7) [1,3,5] [] (fun s8 => [(6,I s8)]) (.xs (.xe 4 [] fun _ => []) .xr):=⟨⟩
instance (x0:SPr):LH (R:=Bool) (l3_u x0) [1,3] [] (fun s7 => [(5,I s7)]) (.xs (.xe 2 [1,3] fun _ => []) .xr):=⟨⟩
instance t_u:FI Tryz.prog 61 (∀ (x0:SPr),FnK Tryz.prog 61 [qPr x0] (fun r:Bool => [B r]) (fun _ => []) (f_u x0)):=⟨Tryz.call61,fun x0 => iM Tryz.func61⟩
end
theorem tN_f:∀ n,(∀ (x0:SPr) (x1:Int) (x2:List Int) r,fN_f n x0 x1 x2 = some r → FnC Tryz.prog 99 [qPr x0,I x1,T.ro (lV x2)] [lV r] []) ∧ (∀ (x0:SPr) (x1:Int) (x2:List Int) (x3:List Int) r,fN_a n x0 x1 x2 x3 = some r → FnC Tryz.prog 100 [qPr x0,I x1,T.ro (lV x2),T.ro (lV x3)] [lV r] []):=by
  intro n
  induction n with
  | zero => exact ⟨(fun _ _ _ r h => by simp [fN_f] at h),(fun _ _ _ _ r h => by simp [fN_a] at h)⟩
  | succ n ih => exact ⟨(fun x0 x1 x2 r h => tb_f ih.2 x0 x1 x2 r (by simpa [fN_f] using h)),(fun x0 x1 x2 x3 r h => tb_a ih.1 ih.2 x0 x1 x2 x3 r (by simpa [fN_a] using h))⟩
theorem u_f (x0:SPr) (x1:Int) (x2:List Int) (r:(List Int)) (h:f_f x0 x1 x2 = some r):FnC Tryz.prog 99 [qPr x0,I x1,T.ro (lV x2)] [lV r] []:=by
 obtain ⟨n,hn⟩:=fuelO_some h
 exact (tN_f n).1 x0 x1 x2 r hn
theorem u_a (x0:SPr) (x1:Int) (x2:List Int) (x3:List Int) (r:(List Int)) (h:f_a x0 x1 x2 x3 = some r):FnC Tryz.prog 100 [qPr x0,I x1,T.ro (lV x2),T.ro (lV x3)] [lV r] []:=by
 obtain ⟨n,hn⟩:=fuelO_some h
 exact (tN_f n).2 x0 x1 x2 x3 r hn
instance t_f:FI Tryz.prog 99 (∀ (x0:SPr) (x1:Int) (x2:List Int),FnK Tryz.prog 99 [qPr x0,I x1,T.ro (lV x2)] (fun r:(List Int) => [lV r]) (fun _ => []) (f_f x0 x1 x2)):=⟨Tryz.call99,fun x0 x1 x2 => FnK.mk (u_f x0 x1 x2)⟩
instance t_a:FI Tryz.prog 100 (∀ (x0:SPr) (x1:Int) (x2:List Int) (x3:List Int),FnK Tryz.prog 100 [qPr x0,I x1,T.ro (lV x2),T.ro (lV x3)] (fun r:(List Int) => [lV r]) (fun _ => []) (f_a x0 x1 x2 x3)):=⟨Tryz.call100,fun x0 x1 x2 x3 => FnK.mk (u_a x0 x1 x2 x3)⟩
section
attribute [local irreducible] RW CW DK OkL Ok Andthen InBlock Round RetG XS.post rng quoO remO ixO sliceO appO appzO lenOk loopO GTo Ghost FnC FnK LocL OptL Kp BsL BuL RpL Bk Lc JQ AK
instance t_aK:FI Tryz.prog 54 (∀ (x0:SexprReader),FnK Tryz.prog 54 [T.ro ((Pt eSexprReader) x0)] (fun r:Int => [(IK .u8) r]) (fun _ => []) (f_aK x0)):=⟨Tryz.call54,fun x0 => iM Tryz.func54⟩
instance t_a3:FI Tryz.prog 24 (∀ (x0:SNode) (x1:Int),FnK Tryz.prog 24 [eSNode x0,I x1] (fun r:Int => [I r]) (fun _ => []) (f_a3 x0 x1)):=⟨Tryz.call24,fun x0 x1 => iM Tryz.func24⟩
end
end Go.Wk
