/- The program and the reference return the same splittings of cocycles, for all arguments (FnExactSplittingOf). This file is a part of the proof. -/
import Derived.Test.YtkifphhpbcgieaaGreatWT
namespace Go.Wk
open Go Go.Proofs Go.Ab
set_option maxRecDepth 100000
set_option maxHeartbeats 1000000
section
attribute [local irreducible] RW CW DK OkL Ok xQ xR vL vW XS.post rng uZ uA ixO zT xP wZ yS zI GTo zH FnC FnK uG sG Kp Lk BsL BuL RpL Bk Lc
instance t_bd:FI Tryz.prog 28 (∀ (x0:List Int) (x1:Int),FnK Tryz.prog 28 [T.ro (lV x0),I x1] (fun r:Int => [I r]) (fun _ => []) (zQL x0 x1)):=⟨Tryz.call28,fun x0 x1 => iF Tryz.func28⟩
instance (x0:List (List Int)):LH (R:=Int) (zUm x0) [0] [] (fun s1 => [(1,I s1.1),(5,I s1.2)]) (.xs (.xe 0 [0] fun r5 => [(1,I r5)]) .xr):=⟨⟩
instance t_aM:FI Tryz.prog 9 (∀ (x0:List (List Int)) (x1:Int),FnK Tryz.prog 9 [T.ro (lM x0),I x1] (fun r:Int => [I r]) (fun _ => []) (zQM x0 x1)):=⟨Tryz.call9,fun x0 x1 => iF Tryz.func9⟩
instance (x0:List (List (List Int))):LH (R:=Int) (zUn x0) [0] [] (fun s1 => [(1,I s1.1),(5,I s1.2)]) (.xs (.xe 0 [0] fun r5 => [(1,I r5)]) .xr):=⟨⟩
instance t_a8:FI Tryz.prog 29 (∀ (x0:List (List (List Int))) (x1:Int),FnK Tryz.prog 29 [T.ro (lC x0),I x1] (fun r:Int => [I r]) (fun _ => []) (zTb x0 x1)):=⟨Tryz.call29,fun x0 x1 => iF Tryz.func29⟩
instance t_be:FI Tryz.prog 7 (∀ (x0:SPr) (x1:Int),FnK Tryz.prog 7 [qPr x0,I x1] (fun r:Int => [I r]) (fun _ => []) (zTc x0 x1)):=⟨Tryz.call7,fun x0 x1 => iF Tryz.func7⟩
instance t_bf:FI Tryz.prog 8 (∀ (x0:zD) (x1:Int),FnK Tryz.prog 8 [zY x0,I x1] (fun r:Int => [I r]) (fun _ => []) (zTd x0 x1)):=⟨Tryz.call8,fun x0 x1 => iF Tryz.func8⟩
instance (x0:List Int):LH (R:=(List Int)) (zQN x0) [0] [] (fun s1 => [(3,L 1 I s1.1),(4,I s1.2)]) (.xe 0 [0] fun r5 => [(3,L 1 I r5)]):=⟨⟩
instance t_aB:FI Tryz.prog 33 (∀ (x0:List Int),FnK Tryz.prog 33 [T.ro (lV x0)] (fun r:(List Int) => [lV r]) (fun _ => []) (zOs x0)):=⟨Tryz.call33,fun x0 => iF Tryz.func33⟩
instance (x0:List (List Int)):LH (R:=(List (List Int))) (zVq x0) [0] [] (fun s1 => [(3,L 1 lV s1.1),(4,I s1.2)]) (.xe 0 [0] fun r6 => [(3,L 1 lV r6)]):=⟨⟩
instance t_E:FI Tryz.prog 13 (∀ (x0:List (List Int)),FnK Tryz.prog 13 [T.ro (lM x0)] (fun r:(List (List Int)) => [lM r]) (fun _ => []) (f_E x0)):=⟨Tryz.call13,fun x0 => iF Tryz.func13⟩
instance (x0:List (List (List Int))):LH (R:=(List (List (List Int)))) (zQO x0) [0] [] (fun s1 => [(3,L 1 lM s1.1),(4,I s1.2)]) (.xe 0 [0] fun r6 => [(3,L 1 lM r6)]):=⟨⟩
instance t_aN:FI Tryz.prog 34 (∀ (x0:List (List (List Int))),FnK Tryz.prog 34 [T.ro (lC x0)] (fun r:(List (List (List Int))) => [lC r]) (fun _ => []) (zQP x0)):=⟨Tryz.call34,fun x0 => iF Tryz.func34⟩
instance t_ar:FI Tryz.prog 11 (∀ (x0:SPr),FnK Tryz.prog 11 [qPr x0] (fun r:SPr => [xU r]) (fun _ => []) (zLY x0)):=⟨Tryz.call11,fun x0 => iF Tryz.func11⟩
instance t_as:FI Tryz.prog 12 (∀ (x0:zD),FnK Tryz.prog 12 [zY x0] (fun r:zD => [yC r]) (fun _ => []) (zLZ x0)):=⟨Tryz.call12,fun x0 => iF Tryz.func12⟩
instance t_bq:FI Tryz.prog 106 (∀ (x0:Int),FnK Tryz.prog 106 [I x0] (fun r:Bool => [B r]) (fun _ => []) (zTe x0)):=⟨Tryz.call106,fun x0 => iF Tryz.func106⟩
instance (x0:List Int):LH (R:=Int) (zK1 x0) [0] [] (fun s1 => [(3,I s1.1),(4,I s1.2)]) (.xe 0 [0] fun r5 => [(3,I r5)]):=⟨⟩
instance t_aE:FI Tryz.prog 134 (∀ (x0:List Int),FnK Tryz.prog 134 [T.ro (lV x0)] (fun r:Int => [I r]) (fun _ => []) (zTf x0)):=⟨Tryz.call134,fun x0 => iF Tryz.func134⟩
instance t_bi:FI Tryz.prog 107 (∀ (x0:Int) (x1:Int) (x2:Int),FnK Tryz.prog 107 [I x0,I x1,I x2] (fun r:Bool => [B r]) (fun _ => []) (zQQ x0 x1 x2)):=⟨Tryz.call107,fun x0 x1 x2 => iF Tryz.func107⟩
instance (x0:List Int) (x1:List Int) (x2:Int):LH (R:=Bool) (zN0 x0 x1 x2) [0,1,2] [] (fun s1 => [(7,I s1)]) (.xs (.xe 0 [0,1,2] fun _ => []) .xr):=⟨⟩
instance t_aD:FI Tryz.prog 135 (∀ (x0:List Int) (x1:List Int) (x2:Int),FnK Tryz.prog 135 [T.ro (lV x0),T.ro (lV x1),I x2] (fun r:Bool => [B r]) (fun _ => []) (zQR x0 x1 x2)):=⟨Tryz.call135,fun x0 x1 x2 => iF Tryz.func135⟩
instance (x0:SPr):LH (R:=Bool) (zQS x0) [1,3] [] (fun s1 => [(4,I s1)]) (.xs (.xe 0 [] fun _ => []) .xr):=⟨⟩
instance (x0:SPr) (s7:Int):LH (R:=Bool) (zQT x0 s7) [1,3,5] [] (fun s8 => [(6,I s8)]) (.xs (.xe 4 [] fun _ => []) .xr):=⟨⟩
instance (x0:SPr):LH (R:=Bool) (zMa x0) [1,3] [] (fun s7 => [(5,I s7)]) (.xs (.xe 2 [1,3] fun _ => []) .xr):=⟨⟩
instance t_v:FI Tryz.prog 104 (∀ (x0:SPr),FnK Tryz.prog 104 [qPr x0] (fun r:Bool => [B r]) (fun _ => []) (f_v x0)):=⟨Tryz.call104,fun x0 => iF Tryz.func104⟩
instance t_r:FI Tryz.prog 63 (∀ (x0:List Int),FnK Tryz.prog 63 [T.ro (lV x0)] (fun r:(List Int) => [lV r]) (fun _ => []) (f_r x0)):=⟨Tryz.call63,fun x0 => iF Tryz.func63⟩
instance (g_a:SPr → Int → (List Int) → (List Int) → Option (List Int)) (x0:SPr) (x1:Int) (x2:List Int) (s5:(List Int) × Int):LH (R:=(List Int)) (zQU g_a x0 x1 x2 s5) [1,2,3,7,9] [] (fun s6 => [(8,L 1 I s6.1),(10,I s6.2)]) (.xe 2 [] fun r11 => [(8,L 1 I r11)]):=⟨⟩
instance (g_a:SPr → Int → (List Int) → (List Int) → Option (List Int)) (x0:SPr) (x1:Int) (x2:List Int):LH (R:=(List Int)) (zQV g_a x0 x1 x2) [1,2,3,7] [] (fun s5 => [(8,L 1 I s5.1),(9,I s5.2)]) (.xe 0 [1,2,3,7] fun r13 => [(8,L 1 I r13)]):=⟨⟩
theorem zXE {g_a:SPr → Int → (List Int) → (List Int) → Option (List Int)} [FI Tryz.prog 162 (∀ (x0:SPr) (x1:Int) (x2:List Int) (x3:List Int),FnK Tryz.prog 162 [qPr x0,I x1,T.ro (lV x2),T.ro (lV x3)] (fun r:(List Int) => [lV r]) (fun _ => []) (g_a x0 x1 x2 x3))]:∀ (x0:SPr) (x1:Int) (x2:List Int),FnK Tryz.prog 161 [qPr x0,I x1,T.ro (lV x2)] (fun r:(List Int) => [lV r]) (fun _ => []) (b_e g_a x0 x1 x2):=fun x0 x1 x2 => iF Tryz.func161
theorem zXF {g_a:SPr → Int → (List Int) → (List Int) → Option (List Int)} (H_a:∀ (x0:SPr) (x1:Int) (x2:List Int) (x3:List Int) r,g_a x0 x1 x2 x3 = some r → FnC Tryz.prog 162 [qPr x0,I x1,T.ro (lV x2),T.ro (lV x3)] [lV r] []) (x0:SPr) (x1:Int) (x2:List Int) (r:(List Int)) (h:b_e g_a x0 x1 x2 = some r):FnC Tryz.prog 161 [qPr x0,I x1,T.ro (lV x2)] [lV r] []:=by
 have:FI Tryz.prog 162 (∀ (x0:SPr) (x1:Int) (x2:List Int) (x3:List Int),FnK Tryz.prog 162 [qPr x0,I x1,T.ro (lV x2),T.ro (lV x3)] (fun r:(List Int) => [lV r]) (fun _ => []) (g_a x0 x1 x2 x3)):=⟨Tryz.call162,fun x0 x1 x2 x3 => FnK.mk (H_a x0 x1 x2 x3)⟩
 exact (zXE x0 x1 x2).go h
instance (g_e:SPr → Int → (List Int) → Option (List Int)) (x0:SPr) (x1:Int) (x3:List Int):LH (R:=(List Int)) (zTg g_e x0 x1 x3) [1,2,3,4,11] [] (fun s1 => [(10,L 1 I s1.1),(12,I s1.2)]) (.xe 0 [] fun r9 => [(10,L 1 I r9)]):=⟨⟩
theorem zXG {g_e:SPr → Int → (List Int) → Option (List Int)} [FI Tryz.prog 161 (∀ (x0:SPr) (x1:Int) (x2:List Int),FnK Tryz.prog 161 [qPr x0,I x1,T.ro (lV x2)] (fun r:(List Int) => [lV r]) (fun _ => []) (g_e x0 x1 x2))] {g_a:SPr → Int → (List Int) → (List Int) → Option (List Int)} [FI Tryz.prog 162 (∀ (x0:SPr) (x1:Int) (x2:List Int) (x3:List Int),FnK Tryz.prog 162 [qPr x0,I x1,T.ro (lV x2),T.ro (lV x3)] (fun r:(List Int) => [lV r]) (fun _ => []) (g_a x0 x1 x2 x3))]:∀ (x0:SPr) (x1:Int) (x2:List Int) (x3:List Int),FnK Tryz.prog 162 [qPr x0,I x1,T.ro (lV x2),T.ro (lV x3)] (fun r:(List Int) => [lV r]) (fun _ => []) (b_a g_e g_a x0 x1 x2 x3):=fun x0 x1 x2 x3 => iF Tryz.func162
theorem zXH {g_e:SPr → Int → (List Int) → Option (List Int)} (H_e:∀ (x0:SPr) (x1:Int) (x2:List Int) r,g_e x0 x1 x2 = some r → FnC Tryz.prog 161 [qPr x0,I x1,T.ro (lV x2)] [lV r] []) {g_a:SPr → Int → (List Int) → (List Int) → Option (List Int)} (H_a:∀ (x0:SPr) (x1:Int) (x2:List Int) (x3:List Int) r,g_a x0 x1 x2 x3 = some r → FnC Tryz.prog 162 [qPr x0,I x1,T.ro (lV x2),T.ro (lV x3)] [lV r] []) (x0:SPr) (x1:Int) (x2:List Int) (x3:List Int) (r:(List Int)) (h:b_a g_e g_a x0 x1 x2 x3 = some r):FnC Tryz.prog 162 [qPr x0,I x1,T.ro (lV x2),T.ro (lV x3)] [lV r] []:=by
 have:FI Tryz.prog 161 (∀ (x0:SPr) (x1:Int) (x2:List Int),FnK Tryz.prog 161 [qPr x0,I x1,T.ro (lV x2)] (fun r:(List Int) => [lV r]) (fun _ => []) (g_e x0 x1 x2)):=⟨Tryz.call161,fun x0 x1 x2 => FnK.mk (H_e x0 x1 x2)⟩
 have:FI Tryz.prog 162 (∀ (x0:SPr) (x1:Int) (x2:List Int) (x3:List Int),FnK Tryz.prog 162 [qPr x0,I x1,T.ro (lV x2),T.ro (lV x3)] (fun r:(List Int) => [lV r]) (fun _ => []) (g_a x0 x1 x2 x3)):=⟨Tryz.call162,fun x0 x1 x2 x3 => FnK.mk (H_a x0 x1 x2 x3)⟩
 exact (zXG x0 x1 x2 x3).go h
end
theorem zXh:∀ n,(∀ (x0:SPr) (x1:Int) (x2:List Int) r,zMb n x0 x1 x2 = some r → FnC Tryz.prog 161 [qPr x0,I x1,T.ro (lV x2)] [lV r] []) ∧ (∀ (x0:SPr) (x1:Int) (x2:List Int) (x3:List Int) r,zMc n x0 x1 x2 x3 = some r → FnC Tryz.prog 162 [qPr x0,I x1,T.ro (lV x2),T.ro (lV x3)] [lV r] []):=by
  intro n
  induction n with
  | zero => exact ⟨(fun _ _ _ r h => by simp [zMb] at h),(fun _ _ _ _ r h => by simp [zMc] at h)⟩
  | succ n ih => exact ⟨(fun x0 x1 x2 r h => zXF ih.2 x0 x1 x2 r (by simpa [zMb] using h)),(fun x0 x1 x2 x3 r h => zXH ih.1 ih.2 x0 x1 x2 x3 r (by simpa [zMc] using h))⟩
theorem u_e (x0:SPr) (x1:Int) (x2:List Int) (r:(List Int)) (h:f_e x0 x1 x2 = some r):FnC Tryz.prog 161 [qPr x0,I x1,T.ro (lV x2)] [lV r] []:=by
 obtain ⟨n,hn⟩:=qR h
 exact (zXh n).1 x0 x1 x2 r hn
theorem u_a (x0:SPr) (x1:Int) (x2:List Int) (x3:List Int) (r:(List Int)) (h:f_a x0 x1 x2 x3 = some r):FnC Tryz.prog 162 [qPr x0,I x1,T.ro (lV x2),T.ro (lV x3)] [lV r] []:=by
 obtain ⟨n,hn⟩:=qR h
 exact (zXh n).2 x0 x1 x2 x3 r hn
instance t_e:FI Tryz.prog 161 (∀ (x0:SPr) (x1:Int) (x2:List Int),FnK Tryz.prog 161 [qPr x0,I x1,T.ro (lV x2)] (fun r:(List Int) => [lV r]) (fun _ => []) (f_e x0 x1 x2)):=⟨Tryz.call161,fun x0 x1 x2 => FnK.mk (u_e x0 x1 x2)⟩
instance t_a:FI Tryz.prog 162 (∀ (x0:SPr) (x1:Int) (x2:List Int) (x3:List Int),FnK Tryz.prog 162 [qPr x0,I x1,T.ro (lV x2),T.ro (lV x3)] (fun r:(List Int) => [lV r]) (fun _ => []) (f_a x0 x1 x2 x3)):=⟨Tryz.call162,fun x0 x1 x2 x3 => FnK.mk (u_a x0 x1 x2 x3)⟩
section
attribute [local irreducible] RW CW DK OkL Ok xQ xR vL vW XS.post rng uZ uA ixO zT xP wZ yS zI GTo zH FnC FnK uG sG Kp Lk BsL BuL RpL Bk Lc
instance (x0:SPr) (x1:Int):LH (R:=(List Int)) (zN1 x0 x1) [1,4] [] (fun s1 => [(3,I s1.1),(9,L 1 I s1.2.1),(10,T.ro (lV s1.2.2))]) (.xe 0 [1,4] fun r8 => [(9,L 1 I r8)]):=⟨⟩
instance t_aS:FI Tryz.prog 160 (∀ (x0:SPr) (x1:Int) (x2:List Int) (x3:Int),FnK Tryz.prog 160 [qPr x0,I x1,T.ro (lV x2),I x3] (fun r:(List Int) => [lV r]) (fun _ => []) (zTh x0 x1 x2 x3)):=⟨Tryz.call160,fun x0 x1 x2 x3 => iF Tryz.func160⟩
instance (x0:List Int) (x1:List Int):LH (R:=Bool) (zUo x0 x1) [0,1] [] (fun s1 => [(5,I s1)]) (.xs (.xe 0 [0,1] fun _ => []) .xr):=⟨⟩
instance t_ag:FI Tryz.prog 138 (∀ (x0:List Int) (x1:List Int),FnK Tryz.prog 138 [T.ro (lV x0),T.ro (lV x1)] (fun r:Bool => [B r]) (fun _ => []) (zIN x0 x1)):=⟨Tryz.call138,fun x0 x1 => iF Tryz.func138⟩
instance t_bD:FI Tryz.prog 163 (∀ (x0:Int) (x1:Int),FnK Tryz.prog 163 [I x0,I x1] (fun r:(List Int) => [lV r]) (fun _ => []) (zVr x0 x1)):=⟨Tryz.call163,fun x0 x1 => iF Tryz.func163⟩
instance (x0:SPr) (x1:Int):LH (R:=yU) (zQW x0 x1) [1,2,4,5,6] [] (fun s1 => [(7,I s1)]) (.xs (.xe 0 [] fun _ => []) .xr):=⟨⟩
instance (x0:SPr) (x1:Int) (s7:Int):LH (R:=yU) (zQX x0 x1 s7) [1,2,4,5,6,9] [] (fun s8 => [(10,I s8)]) (.xs (.xe 4 [] fun _ => []) .xr):=⟨⟩
instance (x0:SPr) (x1:Int):LH (R:=yU) (zQY x0 x1) [1,2,4,5,6] [] (fun s7 => [(9,I s7)]) (.xs (.xe 2 [] fun _ => []) .xr):=⟨⟩
instance (x0:SPr) (x1:Int):LH (R:=yU) (zQZ x0 x1) [1,2,4,5,6,14,15,16] [16] (fun s16 => [(17,T.ro (lV s16.1)),(18,I s16.2)]) (.xe 8 [] fun r46 => [(17,T.ro (lV r46))]):=⟨⟩
instance (x0:SPr) (x1:Int) (v38:List Int):LH (R:=yU) (zRa x0 x1 v38) [1,2,4,5,6,14] [] (fun s15 => [(15,I s15)]) (.xs (.xe 6 [1,2,5,6,14] fun _ => []) .xr):=⟨⟩
instance t_l:FI Tryz.prog 151 (∀ (x0:SPr) (x1:Int),FnK Tryz.prog 151 [qPr x0,I x1] (fun r:yU => [zFt r]) (fun _ => []) (f_l x0 x1)):=⟨Tryz.call151,fun x0 x1 => iF Tryz.func151⟩
instance (x0:SPr):LH (R:=yU) (zK2 x0) [1,2] [] (fun s1 => [(3,I s1)]) (.xs (.xe 0 [1] fun _ => []) .xr):=⟨⟩
instance t_aT:FI Tryz.prog 136 (∀ (x0:SPr),FnK Tryz.prog 136 [qPr x0] (fun r:yU => [zFt r]) (fun _ => []) (zVs x0)):=⟨Tryz.call136,fun x0 => iF Tryz.func136⟩
instance t_bE:FI Tryz.prog 105 (∀ (x0:SPr),FnK Tryz.prog 105 [qPr x0] (fun r:Bool => [B r]) (fun _ => []) (zVt x0)):=⟨Tryz.call105,fun x0 => iF Tryz.func105⟩
instance t_br:FI Tryz.prog 72 (∀ (x0:SPr),FnK Tryz.prog 72 [qPr x0] (fun r:Bool => [B r]) (fun _ => []) (zTi x0)):=⟨Tryz.call72,fun x0 => iF Tryz.func72⟩
instance (x0:Int) (x2:List Int):LH (R:=Bool) (zN2 x0 x2) [0,2] [] (fun s1 => [(7,I s1)]) (.xs (.xe 0 [0,2] fun _ => []) .xr):=⟨⟩
instance t_aI:FI Tryz.prog 113 (∀ (x0:Int) (x1:Int) (x2:List Int),FnK Tryz.prog 113 [I x0,I x1,T.ro (lV x2)] (fun r:Bool => [B r]) (fun _ => []) (zRb x0 x1 x2)):=⟨Tryz.call113,fun x0 x1 x2 => iF Tryz.func113⟩
instance (x0:Int) (x1:Int) (x2:List (List Int)):LH (R:=Bool) (zN3 x0 x1 x2) [0,1,2] [] (fun s1 => [(7,I s1)]) (.xs (.xe 0 [0,1,2] fun _ => []) .xr):=⟨⟩
instance t_aU:FI Tryz.prog 108 (∀ (x0:Int) (x1:Int) (x2:List (List Int)),FnK Tryz.prog 108 [I x0,I x1,T.ro (lM x2)] (fun r:Bool => [B r]) (fun _ => []) (zTj x0 x1 x2)):=⟨Tryz.call108,fun x0 x1 x2 => iF Tryz.func108⟩
instance (x0:Int):LH (R:=(List (List Int))) (zK3 x0) [0] [] (fun s1 => [(3,L 1 lV s1.1),(4,I s1.2)]) (.xe 0 [0] fun r5 => [(3,L 1 lV r5)]):=⟨⟩
instance t_G:FI Tryz.prog 109 (∀ (x0:Int),FnK Tryz.prog 109 [I x0] (fun r:(List (List Int)) => [lM r]) (fun _ => []) (f_G x0)):=⟨Tryz.call109,fun x0 => iF Tryz.func109⟩
instance (x0:Int) (x1:List Int) (x2:List (List Int)) (s5:(List Int) × Int):LH (R:=(List Int)) (zRc x0 x1 x2 s5) [0,1,2,10] [] (fun s6 => [(9,L 1 I s6.1),(11,I s6.2)]) (.xe 2 [] fun r12 => [(9,L 1 I r12)]):=⟨⟩
instance (x0:Int) (x1:List Int) (x2:List (List Int)):LH (R:=(List Int)) (zRd x0 x1 x2) [0,1,2] [] (fun s5 => [(9,L 1 I s5.1),(10,I s5.2)]) (.xe 0 [0,1,2] fun r14 => [(9,L 1 I r14)]):=⟨⟩
instance t_F:FI Tryz.prog 137 (∀ (x0:Int) (x1:List Int) (x2:List (List Int)) (x3:Int),FnK Tryz.prog 137 [I x0,T.ro (lV x1),T.ro (lM x2),I x3] (fun r:(List Int) => [lV r]) (fun _ => []) (f_F x0 x1 x2 x3)):=⟨Tryz.call137,fun x0 x1 x2 x3 => iF Tryz.func137⟩
instance (x0:Int) (x1:List (List Int)) (x2:List (List Int)) (x3:Int):LH (R:=(List (List Int))) (zRe x0 x1 x2 x3) [0,1,2,3] [] (fun s1 => [(9,L 1 lV s1.1),(10,I s1.2)]) (.xe 0 [0,1,2,3] fun r5 => [(9,L 1 lV r5)]):=⟨⟩
instance t_X:FI Tryz.prog 110 (∀ (x0:Int) (x1:List (List Int)) (x2:List (List Int)) (x3:Int),FnK Tryz.prog 110 [I x0,T.ro (lM x1),T.ro (lM x2),I x3] (fun r:(List (List Int)) => [lM r]) (fun _ => []) (f_X x0 x1 x2 x3)):=⟨Tryz.call110,fun x0 x1 x2 x3 => iF Tryz.func110⟩
instance (x0:zD) (x1:List Int) (s5:(List (List Int)) × Int):LH (R:=(List (List Int))) (zRf x0 x1 s5) [1,2,6] [] (fun s6 => [(5,L 1 lV s6.1),(7,I s6.2)]) (.xe 2 [] fun r6 => [(5,L 1 lV r6)]):=⟨⟩
instance (x0:zD) (x1:List Int):LH (R:=(List (List Int))) (zRg x0 x1) [1,2] [] (fun s5 => [(5,L 1 lV s5.1),(6,I s5.2)]) (.xe 0 [1,2] fun r8 => [(5,L 1 lV r8)]):=⟨⟩
instance t_J:FI Tryz.prog 112 (∀ (x0:zD) (x1:List Int),FnK Tryz.prog 112 [zY x0,T.ro (lV x1)] (fun r:(List (List Int)) => [lM r]) (fun _ => []) (f_J x0 x1)):=⟨Tryz.call112,fun x0 x1 => iF Tryz.func112⟩
instance (x0:List (List Int)) (x1:List (List Int)):LH (R:=Bool) (zRh x0 x1) [0,1] [] (fun s1 => [(5,I s1)]) (.xs (.xe 0 [0,1] fun _ => []) .xr):=⟨⟩
instance t_a0:FI Tryz.prog 111 (∀ (x0:List (List Int)) (x1:List (List Int)),FnK Tryz.prog 111 [T.ro (lM x0),T.ro (lM x1)] (fun r:Bool => [B r]) (fun _ => []) (zTk x0 x1)):=⟨Tryz.call111,fun x0 x1 => iF Tryz.func111⟩
instance (x0:SPr) (x1:zD):LH (R:=Bool) (zRi x0 x1) [2,3,5] [] (fun s1 => [(6,I s1)]) (.xs (.xe 0 [] fun _ => []) .xr):=⟨⟩
instance (x0:SPr) (x1:zD) (s11:Int):LH (R:=Bool) (zRj x0 x1 s11) [2,3,5,7] [] (fun s12 => [(8,L 1 lV s12.1),(9,I s12.2)]) (.xe 4 [] fun r12 => [(8,L 1 lV r12)]):=⟨⟩
instance (x0:SPr) (x1:zD) (s11:Int):LH (R:=Bool) (zRk x0 x1 s11) [2,3,5,7] [] (fun s14 => [(10,I s14)]) (.xs (.xe 6 [] fun _ => []) .xr):=⟨⟩
instance (x0:SPr) (x1:zD):LH (R:=Bool) (zRl x0 x1) [2,3,5] [] (fun s11 => [(7,I s11)]) (.xs (.xe 2 [2,3,5] fun _ => []) .xr):=⟨⟩
instance t_p:FI Tryz.prog 73 (∀ (x0:SPr) (x1:zD),FnK Tryz.prog 73 [qPr x0,zY x1] (fun r:Bool => [B r]) (fun _ => []) (f_p x0 x1)):=⟨Tryz.call73,fun x0 x1 => iF Tryz.func73⟩
instance t_bs:FI Tryz.prog 49 (∀ (x0:SPr) (x1:zD),FnK Tryz.prog 49 [qPr x0,zY x1] (fun r:Bool => [B r]) (fun _ => []) (zTl x0 x1)):=⟨Tryz.call49,fun x0 x1 => iF Tryz.func49⟩
instance t_bt:FI Tryz.prog 74 (∀ (x0:SPr),FnK Tryz.prog 74 [qPr x0] (fun r:Int => [I r]) (fun _ => []) (zTz x0)):=⟨Tryz.call74,fun x0 => iF Tryz.func74⟩
instance (x0:zD) (x1:List (List Int)):LH (R:=Bool) (zKG x0 x1) [1,2] [] (fun s1 => [(5,I s1)]) (.xs (.xe 0 [1,2] fun _ => []) .xr):=⟨⟩
instance t_aV:FI Tryz.prog 75 (∀ (x0:zD) (x1:List (List Int)),FnK Tryz.prog 75 [zY x0,T.ro (lM x1)] (fun r:Bool => [B r]) (fun _ => []) (zV3 x0 x1)):=⟨Tryz.call75,fun x0 x1 => iF Tryz.func75⟩
instance t_bp:FI Tryz.prog 50 (∀ (x0:SPr) (x1:zD) (x2:List (List Int)),FnK Tryz.prog 50 [qPr x0,zY x1,T.ro (lM x2)] (fun r:Bool => [B r]) (fun _ => []) (zSb x0 x1 x2)):=⟨Tryz.call50,fun x0 x1 x2 => iF Tryz.func50⟩
instance t_az:FI Tryz.prog 139 (∀ (x0:zS),FnK Tryz.prog 139 [T.agg [qPr x0.p,zY x0.m,T.ro (lM x0.wP)]] (fun r:zJ => [yQ r]) (fun _ => []) (zKK x0)):=⟨Tryz.call139,fun x0 => iF Tryz.func139⟩
instance t_bF:FI Tryz.prog 152 (∀ (x0:Int) (x1:Int) (x2:Int),FnK Tryz.prog 152 [I x0,I x1,I x2] (fun r:Int => [I r]) (fun _ => []) (zV2 x0 x1 x2)):=⟨Tryz.call152,fun x0 x1 x2 => iF Tryz.func152⟩
instance t_V:FI Tryz.prog 141 (∀ (x0:zS) (x1:Int) (x2:Int),FnK Tryz.prog 141 [T.agg [qPr x0.p,zY x0.m,T.ro (lM x0.wP)],I x1,I x2] (fun r:zJ => [(fun x => T.agg [(Ro lV) x.x,(Ro lV) x.v]) r]) (fun _ => []) (f_V x0 x1 x2)):=⟨Tryz.call141,fun x0 x1 x2 => iF Tryz.func141⟩
instance t_bo:FI Tryz.prog 64 (∀ (x0:Int) (x1:Int),FnK Tryz.prog 64 [I x0,I x1] (fun r:Int => [I r]) (fun _ => []) (zRT x0 x1)):=⟨Tryz.call64,fun x0 x1 => iF Tryz.func64⟩
instance (x0:Int) (x2:Int) (x3:List Int):LH (R:=(List Int)) (zRU x0 x2 x3) [0,2,3] [] (fun s1 => [(9,L 1 I s1.1),(10,I s1.2)]) (.xe 0 [0,2,3] fun r9 => [(9,L 1 I r9)]):=⟨⟩
instance t_o:FI Tryz.prog 43 (∀ (x0:Int) (x1:List Int) (x2:Int) (x3:List Int),FnK Tryz.prog 43 [I x0,T.ro (lV x1),I x2,T.ro (lV x3)] (fun r:(List Int) => [lV r]) (fun _ => []) (f_o x0 x1 x2 x3)):=⟨Tryz.call43,fun x0 x1 x2 x3 => iF Tryz.func43⟩
instance (x0:zD) (x1:List Int) (x2:Int):LH (R:=(List Int)) (zHW x0 x1 x2) [1,2,3] [] (fun s1 => [(7,L 1 I s1.1),(8,I s1.2)]) (.xe 0 [1,2,3] fun r7 => [(7,L 1 I r7)]):=⟨⟩
instance t_an:FI Tryz.prog 153 (∀ (x0:zD) (x1:List Int) (x2:Int),FnK Tryz.prog 153 [zY x0,T.ro (lV x1),I x2] (fun r:(List Int) => [lV r]) (fun _ => []) (zT1 x0 x1 x2)):=⟨Tryz.call153,fun x0 x1 x2 => iF Tryz.func153⟩
end
end Go.Wk

namespace Go.Wk
open Go Go.Proofs Go.Ab
set_option maxRecDepth 100000
set_option maxHeartbeats 1000000
section
attribute [local irreducible] RW CW DK OkL Ok xQ xR vL vW XS.post rng uZ uA ixO zT xP wZ yS zI GTo zH FnC FnK uG sG Kp Lk BsL BuL RpL Bk Lc
instance t_aK:FI Tryz.prog 144 (∀ (x0:zS) (x1:Int),FnK Tryz.prog 144 [T.agg [qPr x0.p,zY x0.m,T.ro (lM x0.wP)],I x1] (fun r:zJ => [(fun x => T.agg [(Ro lV) x.x,(Ro lV) x.v]) r]) (fun _ => []) (zMj x0 x1)):=⟨Tryz.call144,fun x0 x1 => iF Tryz.func144⟩
end
theorem zXI {g_d:zS → Int → zJ → zJ → Option zJ} (H_d:∀ (x0:zS) (x1:Int) (x2:zJ) (x3:zJ) r,g_d x0 x1 x2 x3 = some r → FnC Tryz.prog 140 [T.agg [qPr x0.p,zY x0.m,T.ro (lM x0.wP)],I x1,yF x2,yF x3] [yQ r] []) (x0:zS) (x1:Int) (x2:zJ) (r:zJ) (h:b_f g_d x0 x1 x2 = some r):FnC Tryz.prog 143 [T.agg [qPr x0.p,zY x0.m,T.ro (lM x0.wP)],I x1,yF x2] [yQ r] []:=by
 refine fB Tryz.func143 (fun St W w0 v => ?_)
 refine sR (zAN ?_)
 refine zAN ?_
 refine vK ?_
 refine rN (sR (uM ?_))
 obtain ⟨r1,hr1,h⟩:=bd h
 refine cA Tryz.call139 (FnK.go (t_az.h _) hr1) ?_
 refine vK ?_
 refine oP (vJ wX rfl (xZ rfl rfl) rfl rfl rfl rfl (zB (xE ⟨(zF (Enc.clean (f:=I))),(zF (Enc.clean (f:=I))),trivial⟩)) rfl) ?_
 refine rN (CW.seq (sR (zM ?_)))
 obtain ⟨v2,hv2,h⟩:=bd h
 refine xX ?_
 refine zU ?_
 refine rN (CW.block ?_)
 obtain ⟨r10,hr10,h⟩:=bd h
 refine CW.lp (s:=(r1.x,r1.v,v2)) (zSc g_d x0 x1 x2) (fun s5:(List Int) × (List Int) × Int => yP [(1,I x1),(3,T.ptr (T.agg [qPr x0.p,zY x0.m,T.ro (lM x0.wP)])),(5,T.ptr (yF x2)),(6,T.ptr (T.agg [L 1 I [],L 1 I []])),(7,T.ptr (T.agg [L 1 I s5.1,L 1 I s5.2.1])),(8,I s5.2.2)]) (fun (r10:((List Int) × (List Int))) e E => e = .exit 0 ∧ zH ⟨St,W,w0,Tryz.f143.ntmps⟩ E (yP [(1,I x1),(3,T.ptr (T.agg [qPr x0.p,zY x0.m,T.ro (lM x0.wP)])),(5,T.ptr (yF x2)),(6,T.ptr (T.agg [L 1 I [],L 1 I []])),(7,T.ptr (T.agg [L 1 I r10.1,L 1 I r10.2]))])) (.has ⟨rfl,rfl,rfl,rfl,rfl,rfl,trivial⟩) (fun s5 x h => ?_) hr10 (fun e E hq => ?_)
 refine CW.seq (sR (zM ?_))
 refine sF ?_
 refine tX ?_
 refine vE ?_
 refine wF ?_
 refine rN (cn h (fun hc h => ?_) (fun hc h => ?_))
 refine CW.skip (nA (CW.seq (CW.block (sR (zU ?_)))))
 refine rN (CW.block ?_)
 obtain ⟨r8,hr8,h⟩:=bd h
 refine CW.lp (s:=(s5.1,s5.2.1,0)) (zT2 g_d x0 x1 x2 s5) (fun s6:(List Int) × (List Int) × Int => yP [(1,I x1),(3,T.ptr (T.agg [qPr x0.p,zY x0.m,T.ro (lM x0.wP)])),(5,T.ptr (yF x2)),(6,T.ptr (T.agg [L 1 I [],L 1 I []])),(7,T.ptr (T.agg [L 1 I s6.1,L 1 I s6.2.1])),(8,I s5.2.2),(9,I s6.2.2)]) (fun (r8:((List Int) × (List Int))) e E => e = .exit 2 ∧ zH ⟨St,W,w0,Tryz.f143.ntmps⟩ E (yP [(1,I x1),(3,T.ptr (T.agg [qPr x0.p,zY x0.m,T.ro (lM x0.wP)])),(5,T.ptr (yF x2)),(6,T.ptr (T.agg [L 1 I [],L 1 I []])),(7,T.ptr (T.agg [L 1 I r8.1,L 1 I r8.2])),(8,I s5.2.2)])) (.has ⟨rfl,rfl,rfl,rfl,rfl,rfl,rfl,trivial⟩) (fun s6 x h => ?_) hr8 (fun e E hq => ?_)
 refine CW.seq (sR (zM ?_))
 refine sF ?_
 refine tX ?_
 refine zM ?_
 obtain ⟨v3,hv3,h⟩:=bd h
 refine qJ ?_
 refine uD ?_
 refine wF ?_
 refine rN (cn h (fun hc h => ?_) (fun hc h => ?_))
 refine CW.skip (nA (CW.seq (CW.block ?_)))
 obtain ⟨v4,hv4,h⟩:=bd h
 obtain ⟨r5,hr5,h⟩:=bd h
 obtain ⟨r6,hr6,h⟩:=bd h
 refine CW.dk ?_
 refine xY [(3,_)] ?_
 refine yB [(1,_)] ?_
 refine zJC [(31,_)] ?_
 refine xY [(7,_)] ?_
 refine xY [(3,_)] ?_
 refine yB [(1,_)] ?_
 refine yB [(8,_)] ?_
 refine dG [(34,_),(35,_),(36,_)] [([(37,some (yF r5))],[(37,0)])] ⟨rfl,rfl,rfl,trivial⟩ (fun E h => zO.opE (uS (xs:=[.tmp 34,.tmp 35,.tmp 36]) Tryz.call141 (FnK.go (t_V.h _ _ _) hr5) (afC h.1 rfl (afC h.2.1 rfl (afC h.2.2.1 rfl afN))) rfl ⟨(xE ⟨trivial,trivial,trivial⟩),trivial⟩ rfl rfl) rfl) ?_
 refine dG [(30,_),(32,_),(33,_),(7,_),(37,_)] [([(38,some (yQ r6))],[(38,0)])] ⟨rfl,rfl,rfl,rfl,rfl,trivial⟩ (fun E h => zO.opE (xD (xs:=[.tmp 30,.tmp 32,.tmp 33,.tmp 37]) Tryz.call140 (H_d _ _ _ _ _ hr6) ⟨(agC _ h.1 rfl rfl),⟨(agC _ h.2.1 rfl rfl),⟨(agC _ h.2.2.1 (kH (wS (tV h.2.2.2.1 rfl inferInstance) (wS (tV h.2.2.2.1 rfl inferInstance) kI))) rfl),⟨(agC _ h.2.2.2.2.1 rfl rfl),trivial⟩⟩⟩⟩ (wQ (f:=yQ) inferInstance wK) rfl) rfl) ?_
 refine dG [(7,_),(38,_)] [([(7,some (T.ptr (yQ r6))),(38,some (T.agg [T.same 7 [0,0],T.same 7 [1,0]]))],[(7,1),(38,1)])] ⟨rfl,rfl,trivial⟩ (fun E h => zO.opE (vJ wX rfl (xZ h.1 rfl) h.1 rfl rfl h.2.1 (zB (xE ⟨(zF (Enc.clean (f:=I))),(zF (Enc.clean (f:=I))),trivial⟩)) rfl) rfl) ?_
 refine dNA yW ?_
 refine nB (nA (CW.region (zM ?_)))
 obtain ⟨v7,hv7,h⟩:=bd h
 refine xX ?_
 refine zU ?_
 refine RW.nil ?_
 exact eN h
 refine CW.exit (xA ?_)
 exact eX h
 obtain ⟨rfl,hg⟩:=hq
 refine xB ?_
 refine nB (nA (CW.ghost hg ?_))
 refine CW.region (zM ?_)
 obtain ⟨v9,hv9,h⟩:=bd h
 refine xX ?_
 refine zU ?_
 refine RW.nil ?_
 exact eN h
 refine CW.exit (xA ?_)
 exact eX h
 obtain ⟨rfl,hg⟩:=hq
 refine xB ?_
 refine nA (CW.ghost hg ?_)
 refine CW.seq ?_
 obtain ⟨r11,hr11,h⟩:=bd h
 obtain ⟨r12,hr12,h⟩:=bd h
 refine CW.dk ?_
 refine sQ [(7,_)] ?_
 refine uJ [(39,_),(7,_)] ?_
 refine sQ [(3,_)] ?_
 refine dG [(41,_),(3,_)] [([(42,some (T.addr 3 [0,1,0]))],[(42,0)])] ⟨rfl,rfl,trivial⟩ (fun E h => zO.opE (zCF fld_36_0 h.1 h.2.1 rfl rfl rfl rfl) rfl) ?_
 refine uJ [(42,_),(3,_)] ?_
 refine sQ [(7,_)] ?_
 refine uJ [(44,_),(7,_)] ?_
 refine sQ [(3,_)] ?_
 refine uJ [(46,_),(3,_)] ?_
 refine sQ [(5,_)] ?_
 refine uJ [(48,_),(5,_)] ?_
 refine yB [(1,_)] ?_
 refine dC [(47,_),(49,_),(50,_)] Tryz.call153 (FnK.go (t_an.h _ _ _) hr11) ?_
 refine dC [(43,_),(45,_),(7,_),(51,_)] Tryz.call43 (FnK.go (t_o.h _ _ _ _) hr12) ?_
 refine dG [(40,T.same 7 [0,0]),(7,T.ptr (T.agg [L 1 I r10.1,L 1 I r10.2])),(52,L 1 I r12)] [([(40,some (L 1 I r10.1)),(7,some (T.ptr (T.agg [T.any,L 1 I r10.2])))],[(40,1),(7,3)]),([(53,some (T.agg [L 1 I r10.1,L 1 I r12])),(40,some (T.same 53 [0])),(52,some (T.same 53 [1]))],[(53,0),(40,1),(52,1)])] ⟨rfl,rfl,rfl,trivial⟩ (fun E h => zO.gh (zH.trq 40 7 [0,0] h.1 h.2.1 rfl (zB (zF (Enc.clean (f:=I)))) rfl) <| zO.opE (qY bld_143 [(0,.tmp 40),(1,.tmp 52)] [(0,.slot 40 (L 1 I r10.1)),(1,.slot 52 (L 1 I r12))] [.slot 40 (L 1 I r10.1),.slot 52 (L 1 I r12)] (pkS rfl (zB (zF (Enc.clean (f:=I)))) rfl (pkS (qI h.2.2.1) (zB (zF (Enc.clean (f:=I)))) rfl pkN)) (bqC (.slot _ _) (bqC (.slot _ _) bqN)) rfl) rfl) ?_
 refine dG [(6,_),(53,_)] [([(6,some (T.ptr (T.agg [L 1 I r10.1,L 1 I r12]))),(53,some (T.agg [T.same 6 [0,0],T.same 6 [1,0]]))],[(6,1),(53,1)])] ⟨rfl,rfl,trivial⟩ (fun E h => zO.opE (vJ wX rfl (xZ h.1 rfl) h.1 rfl rfl h.2.1 (zB (xE ⟨(zF (Enc.clean (f:=I))),(zF (Enc.clean (f:=I))),trivial⟩)) rfl) rfl) ?_
 refine dNA yW ?_
 refine nA (CW.ret ?_)
 obtain rfl:=sI h
 exact ⟨_,zH.refl,⟨.inl rfl,[(6,[0],T.agg [L 1 I r10.1,L 1 I r12])],⟨⟨rfl,rfl,rfl,(var_143.h _ rfl rfl).h⟩,trivial⟩,rfl,(by simp),(by simp),trivial⟩⟩
theorem zXJ {g_f:zS → Int → zJ → Option zJ} (H_f:∀ (x0:zS) (x1:Int) (x2:zJ) r,g_f x0 x1 x2 = some r → FnC Tryz.prog 143 [T.agg [qPr x0.p,zY x0.m,T.ro (lM x0.wP)],I x1,yF x2] [yQ r] []) {g_d:zS → Int → zJ → zJ → Option zJ} (H_d:∀ (x0:zS) (x1:Int) (x2:zJ) (x3:zJ) r,g_d x0 x1 x2 x3 = some r → FnC Tryz.prog 140 [T.agg [qPr x0.p,zY x0.m,T.ro (lM x0.wP)],I x1,yF x2,yF x3] [yQ r] []) (x0:zS) (x1:Int) (x2:zJ) (x3:zJ) (r:zJ) (h:b_d g_f g_d x0 x1 x2 x3 = some r):FnC Tryz.prog 140 [T.agg [qPr x0.p,zY x0.m,T.ro (lM x0.wP)],I x1,yF x2,yF x3] [yQ r] []:=by
 refine fB Tryz.func140 (fun St W w0 v => ?_)
 refine sR (zAN ?_)
 refine zAN ?_
 refine zAN ?_
 refine vK ?_
 refine rN (CW.seq (sR (zM ?_)))
 refine sF ?_
 refine oP (zCF fld_34_0 rfl rfl rfl rfl rfl rfl) ?_
 refine tX ?_
 refine vE ?_
 refine zTW ?_
 refine rN (cn h (fun hc h => ?_) (fun hc h => ?_))
 refine CW.seq ?_
 obtain ⟨m1,hm1,h⟩:=bd h
 obtain ⟨r2,hr2,h⟩:=bd h
 refine CW.dk ?_
 refine sQ [(4,_)] ?_
 refine dG [(21,_),(4,_)] [([(22,some (T.addr 4 [0,0,0]))],[(22,0)])] ⟨rfl,rfl,trivial⟩ (fun E h => zO.opE (zCF fld_34_0 h.1 h.2.1 rfl rfl rfl rfl) rfl) ?_
 refine uJ [(22,_),(4,_)] ?_
 refine zLn [(23,_)] ?_
 refine dG [(24,_)] [([(25,some (L 1 I (List.replicate m1 (0:Int))))],[(25,0)])] ⟨rfl,trivial⟩ (fun E h => zO.opE (qX (f:=I) (z:=0) elt_22 (rfl) hm1 h.1 h.1 rfl) rfl) ?_
 refine sQ [(4,_)] ?_
 refine dG [(26,_),(4,_)] [([(27,some (T.addr 4 [0,1,0]))],[(27,0)])] ⟨rfl,rfl,trivial⟩ (fun E h => zO.opE (zCF fld_36_0 h.1 h.2.1 rfl rfl rfl rfl) rfl) ?_
 refine uJ [(27,_),(4,_)] ?_
 refine sQ [(6,_)] ?_
 refine uJ [(29,_),(6,_)] ?_
 refine sQ [(7,_)] ?_
 refine uJ [(31,_),(7,_)] ?_
 refine dC [(28,_),(30,_),(32,_)] Tryz.call43 (FnK.go (t_o.h _ _ _ _) hr2) ?_
 refine dG [(25,_),(33,_)] [([(34,some (T.agg [L 1 I (List.replicate m1 (0:Int)),L 1 I r2])),(25,some (T.same 34 [0])),(33,some (T.same 34 [1]))],[(34,0),(25,1),(33,1)])] ⟨rfl,rfl,trivial⟩ (fun E h => zO.opE (qY bld_143 [(0,.tmp 25),(1,.tmp 33)] [(0,.slot 25 (L 1 I (List.replicate m1 (0:Int)))),(1,.slot 33 (L 1 I r2))] [.slot 25 (L 1 I (List.replicate m1 (0:Int))),.slot 33 (L 1 I r2)] (pkS h.1 (zB (zF (Enc.clean (f:=I)))) rfl (pkS h.2.1 (zB (zF (Enc.clean (f:=I)))) rfl pkN)) (bqC (.slot _ _) (bqC (.slot _ _) bqN)) rfl) rfl) ?_
 refine dG [(8,_),(34,_)] [([(8,some (T.ptr (T.agg [L 1 I (List.replicate m1 (0:Int)),L 1 I r2]))),(34,some (T.agg [T.same 8 [0,0],T.same 8 [1,0]]))],[(8,1),(34,1)])] ⟨rfl,rfl,trivial⟩ (fun E h => zO.opE (vJ wX rfl (xZ h.1 rfl) h.1 rfl rfl h.2.1 (zB (xE ⟨(zF (Enc.clean (f:=I))),(zF (Enc.clean (f:=I))),trivial⟩)) rfl) rfl) ?_
 refine dNA yW ?_
 refine nA (CW.ret (rA ?_))
 obtain rfl:=sI h
 exact ⟨_,zH.refl,⟨.inl rfl,[(8,[0],T.agg [L 1 I (List.replicate m1 (0:Int)),L 1 I r2])],⟨⟨rfl,rfl,rfl,(var_143.h _ rfl rfl).h⟩,trivial⟩,rfl,(by simp),(by simp),trivial⟩⟩
 refine CW.skip (nA (CW.seq ?_))
 obtain ⟨r3,hr3,h⟩:=bd h
 obtain ⟨r4,hr4,h⟩:=bd h
 refine CW.dk ?_
 refine sQ [(6,_)] ?_
 refine uJ [(35,_),(6,_)] ?_
 refine dC [(36,_)] Tryz.call63 (FnK.go (t_r.h _) hr3) ?_
 refine sQ [(6,_)] ?_
 refine uJ [(38,_),(6,_)] ?_
 refine dG [(37,_),(39,_)] [([(40,some (T.agg [L 1 I r3,T.ro (lV x2.v)])),(37,some (T.same 40 [0]))],[(40,0),(37,1)])] ⟨rfl,rfl,trivial⟩ (fun E h => zO.opE (qY bld_143 [(0,.tmp 37),(1,.tmp 39)] [(0,.slot 37 (L 1 I r3)),(1,.slot 39 (T.ro (lV x2.v)))] [.slot 37 (L 1 I r3),.slot 39 (T.ro (lV x2.v))] (pkS h.1 (zB (zF (Enc.clean (f:=I)))) rfl (pkS h.2.1 (zB trivial) rfl pkN)) (bqC (.slot _ _) (bqC (.slot _ _) bqN)) rfl) rfl) ?_
 refine sQ [(7,_)] ?_
 refine uJ [(41,_),(7,_)] ?_
 refine dC [(42,_)] Tryz.call63 (FnK.go (t_r.h _) hr4) ?_
 refine sQ [(7,_)] ?_
 refine uJ [(44,_),(7,_)] ?_
 refine dG [(43,_),(45,_)] [([(46,some (T.agg [L 1 I r4,T.ro (lV x3.v)])),(43,some (T.same 46 [0]))],[(46,0),(43,1)])] ⟨rfl,rfl,trivial⟩ (fun E h => zO.opE (qY bld_143 [(0,.tmp 43),(1,.tmp 45)] [(0,.slot 43 (L 1 I r4)),(1,.slot 45 (T.ro (lV x3.v)))] [.slot 43 (L 1 I r4),.slot 45 (T.ro (lV x3.v))] (pkS h.1 (zB (zF (Enc.clean (f:=I)))) rfl (pkS h.2.1 (zB trivial) rfl pkN)) (bqC (.slot _ _) (bqC (.slot _ _) bqN)) rfl) rfl) ?_
 refine zCr [] ?_
 refine zCr [] ?_
 refine dG [(9,_),(40,_)] [([(9,some (T.ptr (T.agg [L 1 I r3,T.ro (lV x2.v)]))),(40,some (T.agg [T.same 9 [0,0],T.ro (lV x2.v)]))],[(9,1),(40,1)])] ⟨rfl,rfl,trivial⟩ (fun E h => zO.opE (vJ wX rfl (xZ h.1 rfl) h.1 rfl rfl h.2.1 (zB (xE ⟨(zF (Enc.clean (f:=I))),trivial,trivial⟩)) rfl) rfl) ?_
 refine dG [(10,_),(46,_)] [([(10,some (T.ptr (T.agg [L 1 I r4,T.ro (lV x3.v)]))),(46,some (T.agg [T.same 10 [0,0],T.ro (lV x3.v)]))],[(10,1),(46,1)])] ⟨rfl,rfl,trivial⟩ (fun E h => zO.opE (vJ wX rfl (xZ h.1 rfl) h.1 rfl rfl h.2.1 (zB (xE ⟨(zF (Enc.clean (f:=I))),trivial,trivial⟩)) rfl) rfl) ?_
 refine dNA yW ?_
 refine nA (CW.seq (CW.to [(1,I x1),(4,T.ptr (T.agg [qPr x0.p,zY x0.m,T.ro (lM x0.wP)])),(6,T.ptr (yF x2)),(7,T.ptr (yF x3)),(8,T.ptr (T.agg [L 1 I [],L 1 I []])),(9,T.ptr (T.agg [L 1 I r3,T.ro (lV x2.v)])),(10,T.ptr (T.agg [L 1 I r4,T.ro (lV x3.v)]))] ⟨rfl,rfl,rfl,rfl,rfl,rfl,rfl,trivial⟩ ?_))
 refine CW.region (sF ?_)
 refine tX ?_
 refine zM ?_
 obtain ⟨v5,hv5,h⟩:=bd h
 refine zI3 ?_
 refine oP (zFR zCO rfl rfl rfl (yX (yY rfl (zN hv5 rfl))) (zAL (zIu rfl (kG hv5 rfl))) rfl rfl) ?_
 refine rN (sR (sF ?_))
 refine tX ?_
 refine zM ?_
 obtain ⟨v6,hv6,h⟩:=bd h
 refine zI3 ?_
 refine oP (zFR zCO rfl rfl rfl (yX (yY rfl (zN hv6 rfl))) (zAL (zIu rfl (kG hv6 rfl))) rfl rfl) ?_
 refine rN (CW.seq (sR (zU ?_)))
 refine rN (CW.block (CW.ghost (zH.frzI 1 9 _ (t':=T.agg [T.ro (lV (r3.set x1.toNat 0)),T.ro (lV x2.v)]) rfl (fzA (fzC (fzO inferInstance) (fzC rfl fzN)))) ?_))
 obtain ⟨r10,hr10,h⟩:=bd h
 refine CW.lp (s:=(r3.set x1.toNat 0,x2.v,0)) (zO8 g_f x0 x1 x3) (fun s1:(List Int) × (List Int) × Int => yP [(1,I x1),(4,T.ptr (T.agg [qPr x0.p,zY x0.m,T.ro (lM x0.wP)])),(6,T.ptr (yF x2)),(7,T.ptr (yF x3)),(8,T.ptr (T.agg [L 1 I [],L 1 I []])),(9,T.ptr (T.agg [T.ro (lV s1.1),T.ro (lV s1.2.1)])),(10,T.ptr (T.agg [L 1 I (r4.set x1.toNat 0),T.ro (lV x3.v)])),(11,I s1.2.2)]) (fun (r10:((List Int) × (List Int))) e E => e = .exit 0 ∧ zH ⟨St,W,w0,Tryz.f140.ntmps⟩ E (yP [(1,I x1),(4,T.ptr (T.agg [qPr x0.p,zY x0.m,T.ro (lM x0.wP)])),(6,T.ptr (yF x2)),(7,T.ptr (yF x3)),(8,T.ptr (T.agg [L 1 I [],L 1 I []])),(9,T.ptr (T.agg [T.ro (lV r10.1),T.ro (lV r10.2)])),(10,T.ptr (T.agg [L 1 I (r4.set x1.toNat 0),T.ro (lV x3.v)]))])) (.has ⟨rfl,rfl,rfl,rfl,rfl,rfl,rfl,rfl,trivial⟩) (fun s1 x h => ?_) hr10 (fun e E hq => ?_)
 refine CW.seq (sR (zM ?_))
 refine sF ?_
 refine tX ?_
 refine zM ?_
 obtain ⟨v7,hv7,h⟩:=bd h
 refine qJ ?_
 refine uD ?_
 refine wF ?_
 refine rN (cn h (fun hc h => ?_) (fun hc h => ?_))
 refine CW.skip (nA (CW.seq (CW.block (CW.region (uM ?_)))))
 refine zM ?_
 refine uM ?_
 obtain ⟨r8,hr8,h⟩:=bd h
 refine cA Tryz.call143 (H_f _ _ _ _ hr8) ?_
 refine oP (vJ wX rfl (xZ rfl rfl) rfl rfl rfl rfl (zB (xE ⟨(zF (Enc.clean (f:=I))),(zF (Enc.clean (f:=I))),trivial⟩)) rfl) ?_
 refine RW.nil ?_
 refine nB (nA (CW.region (zM ?_)))
 obtain ⟨v9,hv9,h⟩:=bd h
 refine xX ?_
 refine zU ?_
 refine RW.ghost (zH.frzI 1 9 _ (t':=yF r8) rfl (fzA (fzC (fzO inferInstance) (fzC (fzO inferInstance) fzN)))) ?_
 refine RW.nil ?_
 exact eN h
 refine CW.exit (xA ?_)
 exact eX h
 obtain ⟨rfl,hg⟩:=hq
 refine xB ?_
 refine nA (CW.ghost hg ?_)
 refine sR (uM ?_)
 refine zM ?_
 obtain ⟨v11,hv11,h⟩:=bd h
 refine oP (zAI hv11 rfl rfl rfl) ?_
 refine uM ?_
 refine uM ?_
 obtain ⟨r12,hr12,h⟩:=bd h
 refine oP (xD (xs:=[.tmp 68,.tmp 70,.tmp 71,.tmp 72]) Tryz.call140 (H_d _ _ _ _ _ hr12) ⟨(agC _ rfl rfl rfl),⟨(agC _ rfl rfl rfl),⟨(agC _ rfl rfl rfl),⟨(agC _ rfl (kH (wS (tV rfl rfl inferInstance) (wS rfl kI))) rfl),trivial⟩⟩⟩⟩ (wQ (f:=yQ) inferInstance wK) rfl) ?_
 refine vK ?_
 refine oP (vJ wX rfl (xZ rfl rfl) rfl rfl rfl rfl (zB (xE ⟨(zF (Enc.clean (f:=I))),(zF (Enc.clean (f:=I))),trivial⟩)) rfl) ?_
 refine rN (CW.seq ?_)
 obtain ⟨v13,hv13,h⟩:=bd h
 obtain ⟨v14,hv14,h⟩:=bd h
 obtain ⟨v15,hv15,h⟩:=bd h
 refine CW.dk ?_
 refine sQ [(6,_)] ?_
 refine uJ [(74,_),(6,_)] ?_
 refine yB [(1,_)] ?_
 refine zBN [(75,_),(76,_)] ?_
 refine sJ [(77,_)] ?_
 refine sQ [(7,_)] ?_
 refine uJ [(79,_),(7,_)] ?_
 refine yB [(1,_)] ?_
 refine zBN [(80,_),(81,_)] ?_
 refine sJ [(82,_)] ?_
 refine zJC [(78,_),(83,_)] ?_
 refine kZ [(84,_)] ?_
 refine dNA yW ?_
 refine nA (CW.seq (sR (zM ?_)))
 refine sF ?_
 refine oP (zCF fld_34_0 rfl rfl rfl rfl rfl rfl) ?_
 refine tX ?_
 refine zM ?_
 obtain ⟨v16,hv16,h⟩:=bd h
 refine oP (zMB (f:=I) row_22 hv16 (xZ rfl rfl) rfl rfl) ?_
 refine uD ?_
 refine zTW ?_
 refine rN (cn h (fun hc h => ?_) (fun hc h => ?_))
 refine CW.seq (CW.to [(1,I x1),(4,T.ptr (T.agg [qPr x0.p,zY x0.m,T.ro (lM x0.wP)])),(8,T.ptr (T.agg [L 1 I [],L 1 I []])),(12,T.ptr (yQ r12)),(13,I v15)] ⟨rfl,rfl,rfl,rfl,rfl,trivial⟩ ?_)
 refine CW.region (zM ?_)
 refine sF ?_
 refine oP (zCF fld_34_0 rfl rfl rfl rfl rfl rfl) ?_
 refine tX ?_
 refine zM ?_
 obtain ⟨v17,hv17,h⟩:=bd h
 refine oP (zMB (f:=I) row_22 hv17 (xZ rfl rfl) rfl rfl) ?_
 refine uD ?_
 obtain ⟨v18,hv18,h⟩:=bd h
 refine zMQ ?_
 refine zU ?_
 refine rN ?_
 obtain ⟨v19,hv19,h⟩:=bd h
 obtain ⟨r20,hr20,h⟩:=bd h
 obtain ⟨r21,hr21,h⟩:=bd h
 refine CW.dk ?_
 refine xY [(4,_)] ?_
 refine yB [(1,_)] ?_
 refine dG [(102,_)] [([(103,some (I v19))],[(103,0)])] ⟨rfl,trivial⟩ (fun E h => zO.opE (zAI hv19 h.1 rfl rfl) rfl) ?_
 refine xY [(4,_)] ?_
 refine yB [(1,_)] ?_
 refine dG [(104,_),(105,_)] [([(106,some (yF r20))],[(106,0)])] ⟨rfl,rfl,trivial⟩ (fun E h => zO.opE (uS (xs:=[.tmp 104,.tmp 105]) Tryz.call144 (FnK.go (t_aK.h _ _) hr20) (afC h.1 rfl (afC h.2.1 rfl afN)) rfl ⟨(xE ⟨trivial,trivial,trivial⟩),trivial⟩ rfl rfl) rfl) ?_
 refine xY [(12,_)] ?_
 refine dG [(101,_),(103,_),(106,_),(107,_),(12,_)] [([(108,some (yQ r21))],[(108,0)])] ⟨rfl,rfl,rfl,rfl,rfl,trivial⟩ (fun E h => zO.opE (xD (xs:=[.tmp 101,.tmp 103,.tmp 106,.tmp 107]) Tryz.call140 (H_d _ _ _ _ _ hr21) ⟨(agC _ h.1 rfl rfl),⟨(agC _ h.2.1 rfl rfl),⟨(agC _ h.2.2.1 rfl rfl),⟨(agC _ h.2.2.2.1 (kH (wS (tV h.2.2.2.2.1 rfl inferInstance) (wS (tV h.2.2.2.2.1 rfl inferInstance) kI))) rfl),trivial⟩⟩⟩⟩ (wQ (f:=yQ) inferInstance wK) rfl) rfl) ?_
 refine dG [(12,_),(108,_)] [([(12,some (T.ptr (yQ r21))),(108,some (T.agg [T.same 12 [0,0],T.same 12 [1,0]]))],[(12,1),(108,1)])] ⟨rfl,rfl,trivial⟩ (fun E h => zO.opE (vJ wX rfl (xZ h.1 rfl) h.1 rfl rfl h.2.1 (zB (xE ⟨(zF (Enc.clean (f:=I))),(zF (Enc.clean (f:=I))),trivial⟩)) rfl) rfl) ?_
 refine dNA yW ?_
 refine nA (sR (sF ?_))
 refine tX ?_
 obtain ⟨r22,hr22,h⟩:=bd h
 refine cA Tryz.call63 (FnK.go (t_r.h _) hr22) ?_
 refine zU ?_
 refine RW.ghost (zH.tr 14 111 _ rfl rfl (zB (zF (Enc.clean (f:=I)))) rfl) ?_
 refine rN (sR (zM ?_))
 refine zM ?_
 refine zM ?_
 obtain ⟨v23,hv23,h⟩:=bd h
 refine zI3 ?_
 refine oP (zC4 zCO rfl rfl rfl (zN hv23 rfl) (kG hv23 rfl) rfl (zB (Enc.clean (f:=I) _)) rfl) ?_
 refine rN (CW.seq (CW.to [(8,T.ptr (T.agg [L 1 I [],L 1 I []])),(12,T.ptr (yQ r21)),(14,L 1 I (r22.set x1.toNat v18))] ⟨rfl,rfl,rfl,trivial⟩ ?_))
 refine CW.region (zM ?_)
 refine sF ?_
 refine tX ?_
 refine RW.ghost (zH.tr 116 14 _ rfl rfl (zB (zF (Enc.clean (f:=I)))) rfl) ?_
 refine RW.ghost (zH.trq 118 12 [1,0] rfl rfl rfl (zB (zF (Enc.clean (f:=I)))) rfl) ?_
 refine oP (qY bld_143 [(0,.tmp 116),(1,.tmp 118)] [(0,.slot 116 (L 1 I (r22.set x1.toNat v18))),(1,.slot 118 (L 1 I r21.v))] [.slot 116 (L 1 I (r22.set x1.toNat v18)),.slot 118 (L 1 I r21.v)] (pkS rfl (zB (zF (Enc.clean (f:=I)))) rfl (pkS rfl (zB (zF (Enc.clean (f:=I)))) rfl pkN)) (bqC (.slot _ _) (bqC (.slot _ _) bqN)) rfl) ?_
 refine oP (vJ wX rfl (xZ rfl rfl) rfl rfl rfl rfl (zB (xE ⟨(zF (Enc.clean (f:=I))),(zF (Enc.clean (f:=I))),trivial⟩)) rfl) ?_
 refine rN (CW.ret ?_)
 obtain rfl:=sI h
 exact ⟨_,zH.refl,⟨.inl rfl,[(8,[0],T.agg [L 1 I (r22.set x1.toNat v18),L 1 I r21.v])],⟨⟨rfl,rfl,rfl,(var_143.h _ rfl rfl).h⟩,trivial⟩,rfl,(by simp),(by simp),trivial⟩⟩
 refine CW.skip (nA (CW.seq (CW.to [(1,I x1),(8,T.ptr (T.agg [L 1 I [],L 1 I []])),(12,T.ptr (yQ r12)),(13,I v15)] ⟨rfl,rfl,rfl,rfl,trivial⟩ ?_)))
 refine CW.region (sF ?_)
 refine tX ?_
 obtain ⟨r24,hr24,h⟩:=bd h
 refine cA Tryz.call63 (FnK.go (t_r.h _) hr24) ?_
 refine zU ?_
 refine RW.ghost (zH.tr 14 111 _ rfl rfl (zB (zF (Enc.clean (f:=I)))) rfl) ?_
 refine rN (sR (zM ?_))
 refine zM ?_
 refine zM ?_
 obtain ⟨v25,hv25,h⟩:=bd h
 refine zI3 ?_
 refine oP (zC4 zCO rfl rfl rfl (zN hv25 rfl) (kG hv25 rfl) rfl (zB (Enc.clean (f:=I) _)) rfl) ?_
 refine rN (sR (zM ?_))
 refine sF ?_
 refine tX ?_
 refine RW.ghost (zH.tr 116 14 _ rfl rfl (zB (zF (Enc.clean (f:=I)))) rfl) ?_
 refine RW.ghost (zH.trq 118 12 [1,0] rfl rfl rfl (zB (zF (Enc.clean (f:=I)))) rfl) ?_
 refine oP (qY bld_143 [(0,.tmp 116),(1,.tmp 118)] [(0,.slot 116 (L 1 I (r24.set x1.toNat v15))),(1,.slot 118 (L 1 I r12.v))] [.slot 116 (L 1 I (r24.set x1.toNat v15)),.slot 118 (L 1 I r12.v)] (pkS rfl (zB (zF (Enc.clean (f:=I)))) rfl (pkS rfl (zB (zF (Enc.clean (f:=I)))) rfl pkN)) (bqC (.slot _ _) (bqC (.slot _ _) bqN)) rfl) ?_
 refine oP (vJ wX rfl (xZ rfl rfl) rfl rfl rfl rfl (zB (xE ⟨(zF (Enc.clean (f:=I))),(zF (Enc.clean (f:=I))),trivial⟩)) rfl) ?_
 refine rN (CW.ret ?_)
 obtain rfl:=sI h
 exact ⟨_,zH.refl,⟨.inl rfl,[(8,[0],T.agg [L 1 I (r24.set x1.toNat v15),L 1 I r12.v])],⟨⟨rfl,rfl,rfl,(var_143.h _ rfl rfl).h⟩,trivial⟩,rfl,(by simp),(by simp),trivial⟩⟩
theorem zXi:∀ n,(∀ (x0:zS) (x1:Int) (x2:zJ) r,zMk n x0 x1 x2 = some r → FnC Tryz.prog 143 [T.agg [qPr x0.p,zY x0.m,T.ro (lM x0.wP)],I x1,yF x2] [yQ r] []) ∧ (∀ (x0:zS) (x1:Int) (x2:zJ) (x3:zJ) r,zMl n x0 x1 x2 x3 = some r → FnC Tryz.prog 140 [T.agg [qPr x0.p,zY x0.m,T.ro (lM x0.wP)],I x1,yF x2,yF x3] [yQ r] []):=by
  intro n
  induction n with
  | zero => exact ⟨(fun _ _ _ r h => by simp [zMk] at h),(fun _ _ _ _ r h => by simp [zMl] at h)⟩
  | succ n ih => exact ⟨(fun x0 x1 x2 r h => zXI ih.2 x0 x1 x2 r (by simpa [zMk] using h)),(fun x0 x1 x2 x3 r h => zXJ ih.1 ih.2 x0 x1 x2 x3 r (by simpa [zMl] using h))⟩
theorem u_f (x0:zS) (x1:Int) (x2:zJ) (r:zJ) (h:f_f x0 x1 x2 = some r):FnC Tryz.prog 143 [T.agg [qPr x0.p,zY x0.m,T.ro (lM x0.wP)],I x1,yF x2] [yQ r] []:=by
 obtain ⟨n,hn⟩:=qR h
 exact (zXi n).1 x0 x1 x2 r hn
theorem u_d (x0:zS) (x1:Int) (x2:zJ) (x3:zJ) (r:zJ) (h:f_d x0 x1 x2 x3 = some r):FnC Tryz.prog 140 [T.agg [qPr x0.p,zY x0.m,T.ro (lM x0.wP)],I x1,yF x2,yF x3] [yQ r] []:=by
 obtain ⟨n,hn⟩:=qR h
 exact (zXi n).2 x0 x1 x2 x3 r hn
instance t_f:FI Tryz.prog 143 (∀ (x0:zS) (x1:Int) (x2:zJ),FnK Tryz.prog 143 [T.agg [qPr x0.p,zY x0.m,T.ro (lM x0.wP)],I x1,yF x2] (fun r:zJ => [yQ r]) (fun _ => []) (f_f x0 x1 x2)):=⟨Tryz.call143,fun x0 x1 x2 => FnK.mk (u_f x0 x1 x2)⟩
instance t_d:FI Tryz.prog 140 (∀ (x0:zS) (x1:Int) (x2:zJ) (x3:zJ),FnK Tryz.prog 140 [T.agg [qPr x0.p,zY x0.m,T.ro (lM x0.wP)],I x1,yF x2,yF x3] (fun r:zJ => [yQ r]) (fun _ => []) (f_d x0 x1 x2 x3)):=⟨Tryz.call140,fun x0 x1 x2 x3 => FnK.mk (u_d x0 x1 x2 x3)⟩
section
attribute [local irreducible] RW CW DK OkL Ok xQ xR vL vW XS.post rng uZ uA ixO zT xP wZ yS zI GTo zH FnC FnK uG sG Kp Lk BsL BuL RpL Bk Lc
instance t_ao:FI Tryz.prog 142 (∀ (x0:zS) (x1:zJ) (x2:zJ),FnK Tryz.prog 142 [T.agg [qPr x0.p,zY x0.m,T.ro (lM x0.wP)],yF x1,yF x2] (fun r:(List Int) => [lV r]) (fun _ => []) (zKL x0 x1 x2)):=⟨Tryz.call142,fun x0 x1 x2 => iF Tryz.func142⟩
end
theorem u_h (x0:zS) (x1:Int) (r:(List (List Int))) (h:f_h x0 x1 = some r):FnC Tryz.prog 114 [T.agg [qPr x0.p,zY x0.m,T.ro (lM x0.wP)],I x1] [lM r] []:=by
 refine fB Tryz.func114 (fun St W w0 v => ?_)
 refine sR (zAN ?_)
 refine oP (tK 1 rfl) ?_
 refine rN (sR (sF ?_))
 refine oP (zCF fld_34_0 rfl rfl rfl rfl rfl rfl) ?_
 refine tX ?_
 refine vE ?_
 refine zU ?_
 refine rN (sR (oP (zFT elt_23 rfl) ?_))
 refine zU ?_
 refine RW.ghost (zH.tr 6 23 _ rfl rfl (zB trivial) rfl) ?_
 refine rN (CW.seq (sR (zM ?_)))
 obtain ⟨v1,hv1,h⟩:=bd h
 refine xX ?_
 refine zU ?_
 refine rN (CW.block ?_)
 obtain ⟨r27,hr27,h⟩:=bd h
 refine CW.lp (s:=([],v1)) (zSd x0 x1) (fun s9:(List (List Int)) × Int => yP [(1,I x1),(2,T.ptr (T.agg [qPr x0.p,zY x0.m,T.ro (lM x0.wP)])),(5,I (x0.p.zA.length:Int)),(6,L 1 lV s9.1),(7,I s9.2)]) (fun (r27:(List (List Int))) e E => e = .exit 0 ∧ zH ⟨St,W,w0,Tryz.f114.ntmps⟩ E (yP [(1,I x1),(2,T.ptr (T.agg [qPr x0.p,zY x0.m,T.ro (lM x0.wP)])),(5,I (x0.p.zA.length:Int)),(6,L 1 lV r27)])) (.has ⟨rfl,rfl,rfl,rfl,rfl,trivial⟩) (fun s9 x h => ?_) hr27 (fun e E hq => ?_)
 refine CW.seq (sR (zM ?_))
 refine zM ?_
 refine wF ?_
 refine rN (cn h (fun hc h => ?_) (fun hc h => ?_))
 refine CW.skip (nA (CW.seq (CW.block (sR (uM ?_)))))
 obtain ⟨r2,hr2,h⟩:=bd h
 refine cA Tryz.call139 (FnK.go (t_az.h _) hr2) ?_
 refine vK ?_
 refine oP (vJ wX rfl (xZ rfl rfl) rfl rfl rfl rfl (zB (xE ⟨(zF (Enc.clean (f:=I))),(zF (Enc.clean (f:=I))),trivial⟩)) rfl) ?_
 refine rN (CW.seq (sR (zU ?_)))
 refine rN (CW.block ?_)
 obtain ⟨r8,hr8,h⟩:=bd h
 refine CW.lp (s:=(r2.x,r2.v,0)) (zO9 x0 x1 s9) (fun s10:(List Int) × (List Int) × Int => yP [(1,I x1),(2,T.ptr (T.agg [qPr x0.p,zY x0.m,T.ro (lM x0.wP)])),(5,I (x0.p.zA.length:Int)),(6,L 1 lV s9.1),(7,I s9.2),(8,T.ptr (T.agg [L 1 I s10.1,L 1 I s10.2.1])),(9,I s10.2.2)]) (fun (r8:((List Int) × (List Int))) e E => e = .exit 2 ∧ zH ⟨St,W,w0,Tryz.f114.ntmps⟩ E (yP [(1,I x1),(2,T.ptr (T.agg [qPr x0.p,zY x0.m,T.ro (lM x0.wP)])),(5,I (x0.p.zA.length:Int)),(6,L 1 lV s9.1),(7,I s9.2),(8,T.ptr (T.agg [L 1 I r8.1,L 1 I r8.2]))])) (.has ⟨rfl,rfl,rfl,rfl,rfl,rfl,rfl,trivial⟩) (fun s10 x h => ?_) hr8 (fun e E hq => ?_)
 refine CW.seq (sR (zM ?_))
 refine sF ?_
 refine oP (zCF fld_34_0 rfl rfl rfl rfl rfl rfl) ?_
 refine tX ?_
 refine zM ?_
 obtain ⟨v3,hv3,h⟩:=bd h
 refine qJ ?_
 refine uD ?_
 refine wF ?_
 refine rN (cn h (fun hc h => ?_) (fun hc h => ?_))
 refine CW.skip (nA (CW.seq (CW.block ?_)))
 obtain ⟨v4,hv4,h⟩:=bd h
 obtain ⟨r5,hr5,h⟩:=bd h
 obtain ⟨r6,hr6,h⟩:=bd h
 refine CW.dk ?_
 refine xY [(2,_)] ?_
 refine yB [(1,_)] ?_
 refine zJC [(44,_)] ?_
 refine xY [(8,_)] ?_
 refine xY [(2,_)] ?_
 refine yB [(1,_)] ?_
 refine yB [(7,_)] ?_
 refine dG [(47,_),(48,_),(49,_)] [([(50,some (yF r5))],[(50,0)])] ⟨rfl,rfl,rfl,trivial⟩ (fun E h => zO.opE (uS (xs:=[.tmp 47,.tmp 48,.tmp 49]) Tryz.call141 (FnK.go (t_V.h _ _ _) hr5) (afC h.1 rfl (afC h.2.1 rfl (afC h.2.2.1 rfl afN))) rfl ⟨(xE ⟨trivial,trivial,trivial⟩),trivial⟩ rfl rfl) rfl) ?_
 refine dG [(43,_),(45,_),(46,_),(8,_),(50,_)] [([(51,some (yQ r6))],[(51,0)])] ⟨rfl,rfl,rfl,rfl,rfl,trivial⟩ (fun E h => zO.opE (xD (xs:=[.tmp 43,.tmp 45,.tmp 46,.tmp 50]) Tryz.call140 (FnK.go (t_d.h _ _ _ _) hr6) ⟨(agC _ h.1 rfl rfl),⟨(agC _ h.2.1 rfl rfl),⟨(agC _ h.2.2.1 (kH (wS (tV h.2.2.2.1 rfl inferInstance) (wS (tV h.2.2.2.1 rfl inferInstance) kI))) rfl),⟨(agC _ h.2.2.2.2.1 rfl rfl),trivial⟩⟩⟩⟩ (wQ (f:=yQ) inferInstance wK) rfl) rfl) ?_
 refine dG [(8,_),(51,_)] [([(8,some (T.ptr (yQ r6))),(51,some (T.agg [T.same 8 [0,0],T.same 8 [1,0]]))],[(8,1),(51,1)])] ⟨rfl,rfl,trivial⟩ (fun E h => zO.opE (vJ wX rfl (xZ h.1 rfl) h.1 rfl rfl h.2.1 (zB (xE ⟨(zF (Enc.clean (f:=I))),(zF (Enc.clean (f:=I))),trivial⟩)) rfl) rfl) ?_
 refine dNA yW ?_
 refine nB (nA (CW.region (zM ?_)))
 obtain ⟨v7,hv7,h⟩:=bd h
 refine xX ?_
 refine zU ?_
 refine RW.nil ?_
 exact eN h
 refine CW.exit (xA ?_)
 exact eX h
 obtain ⟨rfl,hg⟩:=hq
 refine xB ?_
 refine nA (CW.ghost hg ?_)
 refine CW.seq ?_
 obtain ⟨r9,hr9,h⟩:=bd h
 obtain ⟨r10,hr10,h⟩:=bd h
 obtain ⟨r11,hr11,h⟩:=bd h
 obtain ⟨v12,hv12,h⟩:=bd h
 refine CW.dk ?_
 refine yB [(6,_)] ?_
 refine xY [(2,_)] ?_
 refine xY [(8,_)] ?_
 refine xY [(2,_)] ?_
 refine yB [(1,_)] ?_
 refine xY [(2,_)] ?_
 refine yB [(7,_)] ?_
 refine dG [(57,_),(58,_)] [([(59,some (yF r9))],[(59,0)])] ⟨rfl,rfl,trivial⟩ (fun E h => zO.opE (uS (xs:=[.tmp 57,.tmp 58]) Tryz.call144 (FnK.go (t_aK.h _ _) hr9) (afC h.1 rfl (afC h.2.1 rfl afN)) rfl ⟨(xE ⟨trivial,trivial,trivial⟩),trivial⟩ rfl rfl) rfl) ?_
 refine dC [(55,_),(56,_),(59,_)] Tryz.call143 (FnK.go (t_f.h _ _ _) hr10) ?_
 refine dG [(53,_),(54,_),(8,_),(60,_)] [([(61,some (L 1 I r11))],[(61,0)])] ⟨rfl,rfl,rfl,rfl,trivial⟩ (fun E h => zO.opE (xD (xs:=[.tmp 53,.tmp 54,.tmp 60]) Tryz.call142 (FnK.go (t_ao.h _ _ _) hr11) ⟨(agC _ h.1 rfl rfl),⟨(agC _ h.2.1 (kH (wS (tV h.2.2.1 rfl inferInstance) (wS (tV h.2.2.1 rfl inferInstance) kI))) rfl),⟨(agC _ h.2.2.2.1 (kH (wS (sE inferInstance) (wS (sE inferInstance) kI))) rfl),trivial⟩⟩⟩ (wQ (f:=lV) inferInstance wK) rfl) rfl) ?_
 refine dG [(61,_)] [([(62,some (L 1 lV [r11])),(61,some (T.same 62 [0]))],[(62,0),(61,1)])] ⟨rfl,trivial⟩ (fun E h => zO.opE (jK elt_23 [.tmp 61] [.slot 61 (L 1 I r11)] [r11] lV ⟨.slot _ _,trivial⟩ (pkS h.1 (zB (zF (Enc.clean (f:=I)))) rfl pkN) rfl rfl) rfl) ?_
 refine dG [(52,T.same 6 []),(6,L 1 lV s9.1),(62,L 1 lV [r11])] [([(52,some (L 1 lV s9.1)),(6,some (T.same 52 []))],[(52,1),(6,1)]),([(63,some (L 1 lV v12)),(52,some T.any),(62,some T.any)],[(63,0),(52,1),(62,1)])] ⟨rfl,rfl,rfl,trivial⟩ (fun E h => zO.gh (zH.tr 52 6 _ h.1 h.2.1 (zB (zF (Enc.clean (f:=lV)))) rfl) <| zO.opE (sP (f:=lV) elt_23 hv12 rfl (qI h.2.2.1) rfl) rfl) ?_
 refine kZ [(63,_)] ?_
 refine dNA yW ?_
 refine nA (CW.ghost (zH.tr 6 63 _ rfl rfl (zB (zF (Enc.clean (f:=lV)))) rfl) ?_)
 refine sR (zM ?_)
 obtain ⟨v13,hv13,h⟩:=bd h
 refine xX ?_
 refine zU ?_
 refine rN (CW.block ?_)
 obtain ⟨r25,hr25,h⟩:=bd h
 refine CW.lp (s:=(v12,v13)) (zOA x0 x1 s9) (fun s12:(List (List Int)) × Int => yP [(1,I x1),(2,T.ptr (T.agg [qPr x0.p,zY x0.m,T.ro (lM x0.wP)])),(5,I (x0.p.zA.length:Int)),(6,L 1 lV s12.1),(7,I s9.2),(10,I s12.2)]) (fun (r25:(List (List Int))) e E => e = .exit 4 ∧ zH ⟨St,W,w0,Tryz.f114.ntmps⟩ E (yP [(1,I x1),(2,T.ptr (T.agg [qPr x0.p,zY x0.m,T.ro (lM x0.wP)])),(5,I (x0.p.zA.length:Int)),(6,L 1 lV r25),(7,I s9.2)])) (.has ⟨rfl,rfl,rfl,rfl,rfl,rfl,trivial⟩) (fun s12 x h => ?_) hr25 (fun e E hq => ?_)
 refine CW.seq (sR (zM ?_))
 refine zM ?_
 refine wF ?_
 refine rN (cn h (fun hc h => ?_) (fun hc h => ?_))
 refine CW.skip (nA (CW.seq (CW.block (CW.seq ?_))))
 obtain ⟨r14,hr14,h⟩:=bd h
 obtain ⟨r15,hr15,h⟩:=bd h
 refine CW.dk ?_
 refine xY [(2,_)] ?_
 refine yB [(1,_)] ?_
 refine yB [(7,_)] ?_
 refine dG [(71,_),(72,_),(73,_)] [([(74,some (yF r14))],[(74,0)])] ⟨rfl,rfl,rfl,trivial⟩ (fun E h => zO.opE (uS (xs:=[.tmp 71,.tmp 72,.tmp 73]) Tryz.call141 (FnK.go (t_V.h _ _ _) hr14) (afC h.1 rfl (afC h.2.1 rfl (afC h.2.2.1 rfl afN))) rfl ⟨(xE ⟨trivial,trivial,trivial⟩),trivial⟩ rfl rfl) rfl) ?_
 refine xY [(2,_)] ?_
 refine yB [(1,_)] ?_
 refine yB [(10,_)] ?_
 refine dG [(75,_),(76,_),(77,_)] [([(78,some (yF r15))],[(78,0)])] ⟨rfl,rfl,rfl,trivial⟩ (fun E h => zO.opE (uS (xs:=[.tmp 75,.tmp 76,.tmp 77]) Tryz.call141 (FnK.go (t_V.h _ _ _) hr15) (afC h.1 rfl (afC h.2.1 rfl (afC h.2.2.1 rfl afN))) rfl ⟨(xE ⟨trivial,trivial,trivial⟩),trivial⟩ rfl rfl) rfl) ?_
 refine zCr [] ?_
 refine zCr [] ?_
 refine dG [(11,_),(74,_)] [([(11,some (T.ptr (yF r14))),(74,some (yF r14))],[(11,1),(74,1)])] ⟨rfl,rfl,trivial⟩ (fun E h => zO.opE (vJ wX rfl (xZ h.1 rfl) h.1 rfl rfl h.2.1 (zB (xE ⟨trivial,trivial,trivial⟩)) rfl) rfl) ?_
 refine dG [(12,_),(78,_)] [([(12,some (T.ptr (yF r15))),(78,some (yF r15))],[(12,1),(78,1)])] ⟨rfl,rfl,trivial⟩ (fun E h => zO.opE (vJ wX rfl (xZ h.1 rfl) h.1 rfl rfl h.2.1 (zB (xE ⟨trivial,trivial,trivial⟩)) rfl) rfl) ?_
 refine dNA yW ?_
 refine nA (CW.seq ?_)
 obtain ⟨r16,hr16,h⟩:=bd h
 obtain ⟨r17,hr17,h⟩:=bd h
 refine CW.dk ?_
 refine xY [(2,_)] ?_
 refine yB [(1,_)] ?_
 refine xY [(2,_)] ?_
 refine yB [(7,_)] ?_
 refine yB [(10,_)] ?_
 refine dG [(81,_),(82,_),(83,_)] [([(84,some (yF r16))],[(84,0)])] ⟨rfl,rfl,rfl,trivial⟩ (fun E h => zO.opE (uS (xs:=[.tmp 81,.tmp 82,.tmp 83]) Tryz.call141 (FnK.go (t_V.h _ _ _) hr16) (afC h.1 rfl (afC h.2.1 rfl (afC h.2.2.1 rfl afN))) rfl ⟨(xE ⟨trivial,trivial,trivial⟩),trivial⟩ rfl rfl) rfl) ?_
 refine dC [(79,_),(80,_),(84,_)] Tryz.call143 (FnK.go (t_f.h _ _ _) hr17) ?_
 refine zCr [] ?_
 refine dG [(13,_),(85,_)] [([(13,some (T.ptr (yQ r17))),(85,some (T.agg [T.same 13 [0,0],T.same 13 [1,0]]))],[(13,1),(85,1)])] ⟨rfl,rfl,trivial⟩ (fun E h => zO.opE (vJ wX rfl (xZ h.1 rfl) h.1 rfl rfl h.2.1 (zB (xE ⟨(zF (Enc.clean (f:=I))),(zF (Enc.clean (f:=I))),trivial⟩)) rfl) rfl) ?_
 refine dNA yW ?_
 refine nA (CW.to [(1,I x1),(2,T.ptr (T.agg [qPr x0.p,zY x0.m,T.ro (lM x0.wP)])),(5,I (x0.p.zA.length:Int)),(6,L 1 lV s12.1),(7,I s9.2),(10,I s12.2),(11,T.ptr (yF r14)),(12,T.ptr (yF r15)),(13,T.ptr (yQ r17))] ⟨rfl,rfl,rfl,rfl,rfl,rfl,rfl,rfl,rfl,trivial⟩ ?_)
 obtain ⟨v18,hv18,h⟩:=bd h
 obtain ⟨r19,hr19,h⟩:=bd h
 obtain ⟨v20,hv20,h⟩:=bd h
 obtain ⟨r21,hr21,h⟩:=bd h
 obtain ⟨r22,hr22,h⟩:=bd h
 obtain ⟨v23,hv23,h⟩:=bd h
 refine CW.dk ?_
 refine yB [(6,_)] ?_
 refine xY [(2,_)] ?_
 refine xY [(2,_)] ?_
 refine yB [(1,_)] ?_
 refine dG [(89,_)] [([(90,some (I v18))],[(90,0)])] ⟨rfl,trivial⟩ (fun E h => zO.opE (zAI hv18 h.1 rfl rfl) rfl) ?_
 refine xY [(12,_)] ?_
 refine xY [(11,_)] ?_
 refine dC [(88,_),(90,_),(91,_),(92,_)] Tryz.call140 (FnK.go (t_d.h _ _ _ _) hr19) ?_
 refine xY [(2,_)] ?_
 refine yB [(1,_)] ?_
 refine dG [(95,_)] [([(96,some (I v20))],[(96,0)])] ⟨rfl,trivial⟩ (fun E h => zO.opE (zAI hv20 h.1 rfl rfl) rfl) ?_
 refine xY [(11,_)] ?_
 refine xY [(13,_)] ?_
 refine dG [(94,_),(96,_),(97,_),(98,_),(13,_)] [([(99,some (yQ r21))],[(99,0)])] ⟨rfl,rfl,rfl,rfl,rfl,trivial⟩ (fun E h => zO.opE (xD (xs:=[.tmp 94,.tmp 96,.tmp 97,.tmp 98]) Tryz.call140 (FnK.go (t_d.h _ _ _ _) hr21) ⟨(agC _ h.1 rfl rfl),⟨(agC _ h.2.1 rfl rfl),⟨(agC _ h.2.2.1 rfl rfl),⟨(agC _ h.2.2.2.1 (kH (wS (tV h.2.2.2.2.1 rfl inferInstance) (wS (tV h.2.2.2.2.1 rfl inferInstance) kI))) rfl),trivial⟩⟩⟩⟩ (wQ (f:=yQ) inferInstance wK) rfl) rfl) ?_
 refine dG [(87,_),(93,_),(99,_)] [([(100,some (L 1 I r22))],[(100,0)])] ⟨rfl,rfl,rfl,trivial⟩ (fun E h => zO.opE (xD (xs:=[.tmp 87,.tmp 93,.tmp 99]) Tryz.call142 (FnK.go (t_ao.h _ _ _) hr22) ⟨(agC _ h.1 rfl rfl),⟨(agC _ h.2.1 (kH (wS (sE inferInstance) (wS (sE inferInstance) kI))) rfl),⟨(agC _ h.2.2.1 (kH (wS (sE inferInstance) (wS (sE inferInstance) kI))) rfl),trivial⟩⟩⟩ (wQ (f:=lV) inferInstance wK) rfl) rfl) ?_
 refine dG [(100,_)] [([(101,some (L 1 lV [r22])),(100,some (T.same 101 [0]))],[(101,0),(100,1)])] ⟨rfl,trivial⟩ (fun E h => zO.opE (jK elt_23 [.tmp 100] [.slot 100 (L 1 I r22)] [r22] lV ⟨.slot _ _,trivial⟩ (pkS h.1 (zB (zF (Enc.clean (f:=I)))) rfl pkN) rfl rfl) rfl) ?_
 refine dG [(86,T.same 6 []),(6,L 1 lV s12.1),(101,L 1 lV [r22])] [([(86,some (L 1 lV s12.1)),(6,some (T.same 86 []))],[(86,1),(6,1)]),([(102,some (L 1 lV v23)),(86,some T.any),(101,some T.any)],[(102,0),(86,1),(101,1)])] ⟨rfl,rfl,rfl,trivial⟩ (fun E h => zO.gh (zH.tr 86 6 _ h.1 h.2.1 (zB (zF (Enc.clean (f:=lV)))) rfl) <| zO.opE (sP (f:=lV) elt_23 hv23 rfl (qI h.2.2.1) rfl) rfl) ?_
 refine kZ [(102,_)] ?_
 refine dNA yW ?_
 refine nB (nA (CW.region (zM ?_)))
 obtain ⟨v24,hv24,h⟩:=bd h
 refine xX ?_
 refine zU ?_
 refine RW.ghost (zH.tr 6 102 _ rfl rfl (zB (zF (Enc.clean (f:=lV)))) rfl) ?_
 refine RW.nil ?_
 exact eN h
 refine CW.exit (xA ?_)
 exact eX h
 obtain ⟨rfl,hg⟩:=hq
 refine xB ?_
 refine nB (nA (CW.ghost hg ?_))
 refine CW.region (zM ?_)
 obtain ⟨v26,hv26,h⟩:=bd h
 refine xX ?_
 refine zU ?_
 refine RW.nil ?_
 exact eN h
 refine CW.exit (xA ?_)
 exact eX h
 obtain ⟨rfl,hg⟩:=hq
 refine xB ?_
 refine nA (CW.ghost hg ?_)
 refine sR (uM ?_)
 refine zM ?_
 obtain ⟨r28,hr28,h⟩:=bd h
 refine oP (uS (xs:=[.tmp 103,.tmp 104]) Tryz.call144 (FnK.go (t_aK.h _ _) hr28) (afC rfl rfl (afC rfl rfl afN)) rfl ⟨(xE ⟨trivial,trivial,trivial⟩),trivial⟩ rfl rfl) ?_
 refine vK ?_
 refine oP (vJ wX rfl (xZ rfl rfl) rfl rfl rfl rfl (zB (xE ⟨trivial,trivial,trivial⟩)) rfl) ?_
 refine rN (CW.seq ?_)
 obtain ⟨r29,hr29,h⟩:=bd h
 obtain ⟨r30,hr30,h⟩:=bd h
 obtain ⟨v31,hv31,h⟩:=bd h
 refine CW.dk ?_
 refine yB [(6,_)] ?_
 refine xY [(2,_)] ?_
 refine xY [(2,_)] ?_
 refine yB [(1,_)] ?_
 refine xY [(14,_)] ?_
 refine dC [(108,_),(109,_),(110,_)] Tryz.call143 (FnK.go (t_f.h _ _ _) hr29) ?_
 refine xY [(14,_)] ?_
 refine dG [(107,_),(111,_),(112,_)] [([(113,some (L 1 I r30))],[(113,0)])] ⟨rfl,rfl,rfl,trivial⟩ (fun E h => zO.opE (xD (xs:=[.tmp 107,.tmp 111,.tmp 112]) Tryz.call142 (FnK.go (t_ao.h _ _ _) hr30) ⟨(agC _ h.1 rfl rfl),⟨(agC _ h.2.1 (kH (wS (sE inferInstance) (wS (sE inferInstance) kI))) rfl),⟨(agC _ h.2.2.1 rfl rfl),trivial⟩⟩⟩ (wQ (f:=lV) inferInstance wK) rfl) rfl) ?_
 refine dG [(113,_)] [([(114,some (L 1 lV [r30])),(113,some (T.same 114 [0]))],[(114,0),(113,1)])] ⟨rfl,trivial⟩ (fun E h => zO.opE (jK elt_23 [.tmp 113] [.slot 113 (L 1 I r30)] [r30] lV ⟨.slot _ _,trivial⟩ (pkS h.1 (zB (zF (Enc.clean (f:=I)))) rfl pkN) rfl rfl) rfl) ?_
 refine dG [(106,T.same 6 []),(6,L 1 lV r27),(114,L 1 lV [r30])] [([(106,some (L 1 lV r27)),(6,some (T.same 106 []))],[(106,1),(6,1)]),([(115,some (L 1 lV v31)),(106,some T.any),(114,some T.any)],[(115,0),(106,1),(114,1)])] ⟨rfl,rfl,rfl,trivial⟩ (fun E h => zO.gh (zH.tr 106 6 _ h.1 h.2.1 (zB (zF (Enc.clean (f:=lV)))) rfl) <| zO.opE (sP (f:=lV) elt_23 hv31 rfl (qI h.2.2.1) rfl) rfl) ?_
 refine kZ [(115,_)] ?_
 refine dNA yW ?_
 refine nA (CW.ghost (zH.tr 6 115 _ rfl rfl (zB (zF (Enc.clean (f:=lV)))) rfl) ?_)
 refine CW.seq (sR (zM ?_))
 obtain ⟨v32,hv32,h⟩:=bd h
 refine xX ?_
 refine zU ?_
 refine rN (CW.block ?_)
 obtain ⟨r46,hr46,h⟩:=bd h
 refine CW.lp (s:=(v31,v32)) (zOB x0 x1 r28) (fun s19:(List (List Int)) × Int => yP [(1,I x1),(2,T.ptr (T.agg [qPr x0.p,zY x0.m,T.ro (lM x0.wP)])),(5,I (x0.p.zA.length:Int)),(6,L 1 lV s19.1),(14,T.ptr (yF r28)),(15,I s19.2)]) (fun (r46:(List (List Int))) e E => e = .exit 6 ∧ zH ⟨St,W,w0,Tryz.f114.ntmps⟩ E (yP [(6,L 1 lV r46)])) (.has ⟨rfl,rfl,rfl,rfl,rfl,rfl,trivial⟩) (fun s19 x h => ?_) hr46 (fun e E hq => ?_)
 refine CW.seq (sR (zM ?_))
 refine zM ?_
 refine wF ?_
 refine rN (cn h (fun hc h => ?_) (fun hc h => ?_))
 refine CW.skip (nA (CW.seq (CW.block (sR (uM ?_)))))
 obtain ⟨r33,hr33,h⟩:=bd h
 refine cA Tryz.call139 (FnK.go (t_az.h _) hr33) ?_
 refine vK ?_
 refine oP (vJ wX rfl (xZ rfl rfl) rfl rfl rfl rfl (zB (xE ⟨(zF (Enc.clean (f:=I))),(zF (Enc.clean (f:=I))),trivial⟩)) rfl) ?_
 refine rN (sR (sF ?_))
 refine tX ?_
 refine zM ?_
 obtain ⟨v34,hv34,h⟩:=bd h
 refine zI3 ?_
 refine oP (zFR zCO rfl rfl rfl (yX (yY rfl (zN hv34 rfl))) (zAL (zIu rfl (kG hv34 rfl))) rfl rfl) ?_
 refine rN (sR (uM ?_))
 refine vK ?_
 refine RW.ghost (zH.frzI 9 16 _ (t':=T.agg [T.ro (lV (r33.x.set s19.2.toNat 1)),T.ro (lV r33.v)]) rfl (fzA (fzC (fzO inferInstance) (fzC (fzO inferInstance) fzN)))) ?_
 refine RW.ghost (zH.resf 129 [0] 16 [0,0] _ _ rfl rfl rfl rfl rfl rfl) ?_
 refine RW.ghost (zH.resf 129 [1] 16 [1,0] _ _ rfl rfl rfl rfl rfl rfl) ?_
 refine oP (vJ wX rfl (xZ rfl rfl) rfl rfl rfl rfl (zB (xE ⟨trivial,trivial,trivial⟩)) rfl) ?_
 refine rN (CW.seq (sR (zU ?_)))
 refine rN (CW.block ?_)
 obtain ⟨r38,hr38,h⟩:=bd h
 refine CW.lp (s:=(r33.x.set s19.2.toNat 1,r33.v,0)) (zSe x0 x1) (fun s20:(List Int) × (List Int) × Int => yP [(1,I x1),(2,T.ptr (T.agg [qPr x0.p,zY x0.m,T.ro (lM x0.wP)])),(5,I (x0.p.zA.length:Int)),(6,L 1 lV s19.1),(14,T.ptr (yF r28)),(15,I s19.2),(16,T.ptr (T.agg [T.ro (lV (r33.x.set s19.2.toNat 1)),T.ro (lV r33.v)])),(17,T.ptr (T.agg [T.ro (lV s20.1),T.ro (lV s20.2.1)])),(18,I s20.2.2)]) (fun (r38:((List Int) × (List Int))) e E => e = .exit 8 ∧ zH ⟨St,W,w0,Tryz.f114.ntmps⟩ E (yP [(1,I x1),(2,T.ptr (T.agg [qPr x0.p,zY x0.m,T.ro (lM x0.wP)])),(5,I (x0.p.zA.length:Int)),(6,L 1 lV s19.1),(14,T.ptr (yF r28)),(15,I s19.2),(16,T.ptr (T.agg [T.ro (lV (r33.x.set s19.2.toNat 1)),T.ro (lV r33.v)])),(17,T.ptr (T.agg [T.ro (lV r38.1),T.ro (lV r38.2)]))])) (.has ⟨rfl,rfl,rfl,rfl,rfl,rfl,rfl,rfl,rfl,trivial⟩) (fun s20 x h => ?_) hr38 (fun e E hq => ?_)
 refine CW.seq (sR (zM ?_))
 refine sF ?_
 refine oP (zCF fld_34_0 rfl rfl rfl rfl rfl rfl) ?_
 refine tX ?_
 refine zM ?_
 obtain ⟨v35,hv35,h⟩:=bd h
 refine qJ ?_
 refine uD ?_
 refine wF ?_
 refine rN (cn h (fun hc h => ?_) (fun hc h => ?_))
 refine CW.skip (nA (CW.seq (CW.block (CW.region (uM ?_)))))
 refine zM ?_
 refine uM ?_
 obtain ⟨r36,hr36,h⟩:=bd h
 refine cA Tryz.call143 (FnK.go (t_f.h _ _ _) hr36) ?_
 refine oP (vJ wX rfl (xZ rfl rfl) rfl rfl rfl rfl (zB (xE ⟨(zF (Enc.clean (f:=I))),(zF (Enc.clean (f:=I))),trivial⟩)) rfl) ?_
 refine RW.nil ?_
 refine nB (nA (CW.region (zM ?_)))
 obtain ⟨v37,hv37,h⟩:=bd h
 refine xX ?_
 refine zU ?_
 refine RW.ghost (zH.frzI 1 17 _ (t':=yF r36) rfl (fzA (fzC (fzO inferInstance) (fzC (fzO inferInstance) fzN)))) ?_
 refine RW.nil ?_
 exact eN h
 refine CW.exit (xA ?_)
 exact eX h
 obtain ⟨rfl,hg⟩:=hq
 refine xB ?_
 refine nA (CW.ghost hg ?_)
 obtain ⟨v39,hv39,h⟩:=bd h
 obtain ⟨r40,hr40,h⟩:=bd h
 obtain ⟨v41,hv41,h⟩:=bd h
 obtain ⟨r42,hr42,h⟩:=bd h
 obtain ⟨r43,hr43,h⟩:=bd h
 obtain ⟨v44,hv44,h⟩:=bd h
 refine CW.dk ?_
 refine yB [(6,_)] ?_
 refine xY [(2,_)] ?_
 refine xY [(2,_)] ?_
 refine yB [(1,_)] ?_
 refine dG [(147,_)] [([(148,some (I v39))],[(148,0)])] ⟨rfl,trivial⟩ (fun E h => zO.opE (zAI hv39 h.1 rfl rfl) rfl) ?_
 refine xY [(14,_)] ?_
 refine xY [(17,_)] ?_
 refine dC [(146,_),(148,_),(149,_),(150,_)] Tryz.call140 (FnK.go (t_d.h _ _ _ _) hr40) ?_
 refine xY [(2,_)] ?_
 refine yB [(1,_)] ?_
 refine dG [(153,_)] [([(154,some (I v41))],[(154,0)])] ⟨rfl,trivial⟩ (fun E h => zO.opE (zAI hv41 h.1 rfl rfl) rfl) ?_
 refine xY [(16,_)] ?_
 refine xY [(14,_)] ?_
 refine dC [(152,_),(154,_),(155,_),(156,_)] Tryz.call140 (FnK.go (t_d.h _ _ _ _) hr42) ?_
 refine dG [(145,_),(151,_),(157,_)] [([(158,some (L 1 I r43))],[(158,0)])] ⟨rfl,rfl,rfl,trivial⟩ (fun E h => zO.opE (xD (xs:=[.tmp 145,.tmp 151,.tmp 157]) Tryz.call142 (FnK.go (t_ao.h _ _ _) hr43) ⟨(agC _ h.1 rfl rfl),⟨(agC _ h.2.1 (kH (wS (sE inferInstance) (wS (sE inferInstance) kI))) rfl),⟨(agC _ h.2.2.1 (kH (wS (sE inferInstance) (wS (sE inferInstance) kI))) rfl),trivial⟩⟩⟩ (wQ (f:=lV) inferInstance wK) rfl) rfl) ?_
 refine dG [(158,_)] [([(159,some (L 1 lV [r43])),(158,some (T.same 159 [0]))],[(159,0),(158,1)])] ⟨rfl,trivial⟩ (fun E h => zO.opE (jK elt_23 [.tmp 158] [.slot 158 (L 1 I r43)] [r43] lV ⟨.slot _ _,trivial⟩ (pkS h.1 (zB (zF (Enc.clean (f:=I)))) rfl pkN) rfl rfl) rfl) ?_
 refine dG [(144,T.same 6 []),(6,L 1 lV s19.1),(159,L 1 lV [r43])] [([(144,some (L 1 lV s19.1)),(6,some (T.same 144 []))],[(144,1),(6,1)]),([(160,some (L 1 lV v44)),(144,some T.any),(159,some T.any)],[(160,0),(144,1),(159,1)])] ⟨rfl,rfl,rfl,trivial⟩ (fun E h => zO.gh (zH.tr 144 6 _ h.1 h.2.1 (zB (zF (Enc.clean (f:=lV)))) rfl) <| zO.opE (sP (f:=lV) elt_23 hv44 rfl (qI h.2.2.1) rfl) rfl) ?_
 refine kZ [(160,_)] ?_
 refine dNA yW ?_
 refine nB (nA (CW.region (zM ?_)))
 obtain ⟨v45,hv45,h⟩:=bd h
 refine xX ?_
 refine zU ?_
 refine RW.ghost (zH.tr 6 160 _ rfl rfl (zB (zF (Enc.clean (f:=lV)))) rfl) ?_
 refine RW.nil ?_
 exact eN h
 refine CW.exit (xA ?_)
 exact eX h
 obtain ⟨rfl,hg⟩:=hq
 refine xB ?_
 refine nA (CW.ghost hg ?_)
 refine sR (zM ?_)
 refine zU ?_
 refine RW.ghost (zH.tr 4 6 _ rfl rfl (zB (zF (Enc.clean (f:=lV)))) rfl) ?_
 refine rN (CW.ret ?_)
 obtain rfl:=sI h
 exact rT
instance t_h:FI Tryz.prog 114 (∀ (x0:zS) (x1:Int),FnK Tryz.prog 114 [T.agg [qPr x0.p,zY x0.m,T.ro (lM x0.wP)],I x1] (fun r:(List (List Int)) => [lM r]) (fun _ => []) (f_h x0 x1)):=⟨Tryz.call114,fun x0 x1 => FnK.mk (u_h x0 x1)⟩
section
attribute [local irreducible] RW CW DK OkL Ok xQ xR vL vW XS.post rng uZ uA ixO zT xP wZ yS zI GTo zH FnC FnK uG sG Kp Lk BsL BuL RpL Bk Lc
instance (x0:zS):LH (R:=(List (List Int))) (zKM x0) [1] [] (fun s1 => [(3,L 1 lV s1.1),(4,I s1.2)]) (.xe 0 [1] fun r4 => [(3,L 1 lV r4)]):=⟨⟩
instance t_aL:FI Tryz.prog 76 (∀ (x0:zS),FnK Tryz.prog 76 [T.agg [qPr x0.p,zY x0.m,T.ro (lM x0.wP)]] (fun r:(List (List Int)) => [lM r]) (fun _ => []) (zT3 x0)):=⟨Tryz.call76,fun x0 => iF Tryz.func76⟩
instance (x0:List Int):LH (R:=Bool) (zUp x0) [0] [] (fun s1 => [(3,I s1)]) (.xs (.xe 0 [0] fun _ => []) .xr):=⟨⟩
instance t_a2:FI Tryz.prog 66 (∀ (x0:List Int),FnK Tryz.prog 66 [T.ro (lV x0)] (fun r:Bool => [B r]) (fun _ => []) (zRY x0)):=⟨Tryz.call66,fun x0 => iF Tryz.func66⟩
instance (r1:(List (List Int))):LH (R:=Bool) (zKN r1) [7] [] (fun s1 => [(8,I s1)]) (.xs (.xe 0 [7] fun _ => []) .xr):=⟨⟩
instance t_aA:FI Tryz.prog 51 (∀ (x0:SPr) (x1:zD) (x2:List (List Int)),FnK Tryz.prog 51 [qPr x0,zY x1,T.ro (lM x2)] (fun r:Bool => [B r]) (fun _ => []) (zSf x0 x1 x2)):=⟨Tryz.call51,fun x0 x1 x2 => iF Tryz.func51⟩
instance t_bA:FI Tryz.prog 30 (∀ (x0:SPr) (x1:zD) (x2:List (List Int)) (x3:List (List Int)),FnK Tryz.prog 30 [qPr x0,zY x1,T.ro (lM x2),T.ro (lM x3)] (fun r:Int => [I r]) (fun _ => []) (zTB x0 x1 x2 x3)):=⟨Tryz.call30,fun x0 x1 x2 x3 => iF Tryz.func30⟩
instance (x0:List (List Int)):LH (R:=(List Int)) (zKP x0) [0] [] (fun s1 => [(3,L 1 I s1.1),(4,I s1.2)]) (.xe 0 [0] fun r4 => [(3,L 1 I r4)]):=⟨⟩
instance t_aj:FI Tryz.prog 32 (∀ (x0:List (List Int)),FnK Tryz.prog 32 [T.ro (lM x0)] (fun r:(List Int) => [lV r]) (fun _ => []) (zOC x0)):=⟨Tryz.call32,fun x0 => iF Tryz.func32⟩
instance (x0:List Int) (x1:Int):LH (R:=(List (List Int))) (zOE x0 x1) [0,1] [] (fun s1 => [(5,L 1 lV s1.1),(6,I s1.2)]) (.xe 0 [0,1] fun r7 => [(5,L 1 lV r7)]):=⟨⟩
instance t_U:FI Tryz.prog 52 (∀ (x0:List Int) (x1:Int),FnK Tryz.prog 52 [T.ro (lV x0),I x1] (fun r:(List (List Int)) => [lM r]) (fun _ => []) (f_U x0 x1)):=⟨Tryz.call52,fun x0 x1 => iF Tryz.func52⟩
instance t_ai:FI Tryz.prog 132 (∀ (x0:zD) (x1:List (List Int)) (x2:List Int) (x3:Int),FnK Tryz.prog 132 [zY x0,T.ro (lM x1),T.ro (lV x2),I x3] (fun r:(List Int) => [lV r]) (fun _ => []) (zKH x0 x1 x2 x3)):=⟨Tryz.call132,fun x0 x1 x2 x3 => iF Tryz.func132⟩
instance (x0:zD) (x1:List (List Int)) (x3:List Int) (s5:(List Int) × Int):LH (R:=(List Int)) (zRW x0 x1 x3 s5) [1,3,4,9] [] (fun s6 => [(2,T.ro (lV s6.1)),(10,I s6.2)]) (.xe 2 [] fun r4 => [(2,T.ro (lV r4))]):=⟨⟩
instance (x0:zD) (x1:List (List Int)) (x3:List Int):LH (R:=(List Int)) (zRX x0 x1 x3) [1,3,4] [] (fun s5 => [(2,T.ro (lV s5.1)),(9,I s5.2)]) (.xe 0 [1,3,4] fun r6 => [(2,T.ro (lV r6))]):=⟨⟩
instance t_D:FI Tryz.prog 133 (∀ (x0:zD) (x1:List (List Int)) (x2:List Int) (x3:List Int),FnK Tryz.prog 133 [zY x0,T.ro (lM x1),T.ro (lV x2),T.ro (lV x3)] (fun r:(List Int) => [T.ro (lV r)]) (fun _ => []) (f_D x0 x1 x2 x3)):=⟨Tryz.call133,fun x0 x1 x2 x3 => iF Tryz.func133⟩
end
theorem u_n (x0:SPr) (x1:zD) (x2:List (List Int)) (r:(List (List Int))) (h:f_n x0 x1 x2 = some r):FnC Tryz.prog 103 [qPr x0,zY x1,T.ro (lM x2)] [lM r] []:=by
 refine fB Tryz.func103 (fun St W w0 v => ?_)
 refine sR (zAN ?_)
 refine zAN ?_
 refine oP (tK 1 rfl) ?_
 refine rN (sR (sF ?_))
 refine tX ?_
 refine vE ?_
 refine zU ?_
 refine rN (sR (sF ?_))
 refine tX ?_
 obtain ⟨m1,hm1,h⟩:=bd h
 refine oP (qX (f:=I) (z:=0) elt_22 (rfl) hm1 rfl rfl rfl) ?_
 refine zU ?_
 refine RW.ghost (zH.tr 8 22 _ rfl rfl (zB (zF (Enc.clean (f:=I)))) rfl) ?_
 refine rN (sR (oP (zFT elt_23 rfl) ?_))
 refine zU ?_
 refine RW.ghost (zH.tr 9 23 _ rfl rfl (zB trivial) rfl) ?_
 refine rN (CW.seq (sR (zU ?_)))
 refine rN (CW.block (CW.ghost (zH.frz 8 (k:=1) (f:=I) (g:=I) (List.replicate m1 (0:Int)) rfl inferInstance) ?_))
 obtain ⟨r12,hr12,h⟩:=bd h
 refine CW.lp (s:=([],0)) (zSi x0 x1 x2 m1) (fun s5:(List (List Int)) × Int => yP [(2,T.ro (lM x2)),(3,T.ptr (qPr x0)),(4,T.ptr (zY x1)),(7,I (x0.zA.length:Int)),(8,T.ro (lV (List.replicate m1 (0:Int)))),(9,L 1 lV s5.1),(10,I s5.2)]) (fun (r12:(List (List Int))) e E => e = .exit 0 ∧ zH ⟨St,W,w0,Tryz.f103.ntmps⟩ E (yP [(2,T.ro (lM x2)),(3,T.ptr (qPr x0)),(4,T.ptr (zY x1)),(7,I (x0.zA.length:Int)),(8,T.ro (lV (List.replicate m1 (0:Int)))),(9,L 1 lV r12)])) (.has ⟨rfl,rfl,rfl,rfl,rfl,rfl,rfl,trivial⟩) (fun s5 x h => ?_) hr12 (fun e E hq => ?_)
 refine CW.seq (sR (zM ?_))
 refine zM ?_
 refine wF ?_
 refine rN (cn h (fun hc h => ?_) (fun hc h => ?_))
 refine CW.skip (nA (CW.seq (CW.block (sR (zM ?_)))))
 refine zU ?_
 refine rN (CW.seq (sR (zU ?_)))
 refine rN (CW.block ?_)
 obtain ⟨r5,hr5,h⟩:=bd h
 refine CW.lp (s:=(List.replicate m1 (0:Int),0)) (zSh x0 x1 x2 s5) (fun s6:(List Int) × Int => yP [(2,T.ro (lM x2)),(3,T.ptr (qPr x0)),(4,T.ptr (zY x1)),(7,I (x0.zA.length:Int)),(8,T.ro (lV (List.replicate m1 (0:Int)))),(9,L 1 lV s5.1),(10,I s5.2),(11,T.ro (lV s6.1)),(12,I s6.2)]) (fun (r5:(List Int)) e E => e = .exit 2 ∧ zH ⟨St,W,w0,Tryz.f103.ntmps⟩ E (yP [(2,T.ro (lM x2)),(3,T.ptr (qPr x0)),(4,T.ptr (zY x1)),(7,I (x0.zA.length:Int)),(8,T.ro (lV (List.replicate m1 (0:Int)))),(9,L 1 lV s5.1),(10,I s5.2),(11,T.ro (lV r5))])) (.has ⟨rfl,rfl,rfl,rfl,rfl,rfl,rfl,rfl,rfl,trivial⟩) (fun s6 x h => ?_) hr5 (fun e E hq => ?_)
 refine CW.seq (sR (zM ?_))
 refine sF ?_
 refine tX ?_
 refine zM ?_
 obtain ⟨v2,hv2,h⟩:=bd h
 refine qJ ?_
 refine uD ?_
 refine wF ?_
 refine rN (cn h (fun hc h => ?_) (fun hc h => ?_))
 refine CW.skip (nA (CW.seq (CW.block (CW.region (uM ?_)))))
 refine zM ?_
 refine zM ?_
 refine zM ?_
 obtain ⟨r3,hr3,h⟩:=bd h
 refine cA Tryz.call132 (FnK.go (t_ai.h _ _ _ _) hr3) ?_
 refine zU ?_
 refine RW.ghost (zH.tr 11 43 _ rfl rfl (zB (zF (Enc.clean (f:=I)))) rfl) ?_
 refine RW.nil ?_
 refine nB (nA (CW.region (zM ?_)))
 obtain ⟨v4,hv4,h⟩:=bd h
 refine xX ?_
 refine zU ?_
 refine RW.ghost (zH.frz 11 (k:=1) (f:=I) (g:=I) r3 rfl inferInstance) ?_
 refine RW.nil ?_
 exact eN h
 refine CW.exit (xA ?_)
 exact eX h
 obtain ⟨rfl,hg⟩:=hq
 refine xB ?_
 refine nA (CW.ghost hg ?_)
 obtain ⟨v6,hv6,h⟩:=bd h
 obtain ⟨v7,hv7,h⟩:=bd h
 obtain ⟨r8,hr8,h⟩:=bd h
 obtain ⟨r9,hr9,h⟩:=bd h
 obtain ⟨v10,hv10,h⟩:=bd h
 refine CW.dk ?_
 refine yB [(9,_)] ?_
 refine sQ [(4,_)] ?_
 refine uJ [(45,_),(4,_)] ?_
 refine yB [(11,_)] ?_
 refine sQ [(4,_)] ?_
 refine uJ [(48,_),(4,_)] ?_
 refine zEN [(49,_)] ?_
 refine xY [(4,_)] ?_
 refine yB [(2,_)] ?_
 refine yB [(8,_)] ?_
 refine sQ [(3,_)] ?_
 refine uJ [(54,_),(3,_)] ?_
 refine yB [(10,_)] ?_
 refine zBN [(55,_),(56,_)] ?_
 refine sJ [(57,_)] ?_
 refine dG [(51,_),(52,_),(53,_),(58,_)] [([(59,some (T.ro (lV r8)))],[(59,0)])] ⟨rfl,rfl,rfl,rfl,trivial⟩ (fun E h => zO.opE (uS (xs:=[.tmp 51,.tmp 52,.tmp 53,.tmp 58]) Tryz.call133 (FnK.go (t_D.h _ _ _ _) hr8) (afC h.1 rfl (afC h.2.1 rfl (afC h.2.2.1 rfl (afC h.2.2.2.1 rfl afN)))) rfl ⟨trivial,trivial⟩ rfl rfl) rfl) ?_
 refine dC [(46,_),(47,_),(50,_),(59,_)] Tryz.call43 (FnK.go (t_o.h _ _ _ _) hr9) ?_
 refine dG [(60,_)] [([(61,some (L 1 lV [r9])),(60,some (T.same 61 [0]))],[(61,0),(60,1)])] ⟨rfl,trivial⟩ (fun E h => zO.opE (jK elt_23 [.tmp 60] [.slot 60 (L 1 I r9)] [r9] lV ⟨.slot _ _,trivial⟩ (pkS h.1 (zB (zF (Enc.clean (f:=I)))) rfl pkN) rfl rfl) rfl) ?_
 refine dG [(44,T.same 9 []),(9,L 1 lV s5.1),(61,L 1 lV [r9])] [([(44,some (L 1 lV s5.1)),(9,some (T.same 44 []))],[(44,1),(9,1)]),([(62,some (L 1 lV v10)),(44,some T.any),(61,some T.any)],[(62,0),(44,1),(61,1)])] ⟨rfl,rfl,rfl,trivial⟩ (fun E h => zO.gh (zH.tr 44 9 _ h.1 h.2.1 (zB (zF (Enc.clean (f:=lV)))) rfl) <| zO.opE (sP (f:=lV) elt_23 hv10 rfl (qI h.2.2.1) rfl) rfl) ?_
 refine kZ [(62,_)] ?_
 refine dNA yW ?_
 refine nB (nA (CW.region (zM ?_)))
 obtain ⟨v11,hv11,h⟩:=bd h
 refine xX ?_
 refine zU ?_
 refine RW.ghost (zH.tr 9 62 _ rfl rfl (zB (zF (Enc.clean (f:=lV)))) rfl) ?_
 refine RW.nil ?_
 exact eN h
 refine CW.exit (xA ?_)
 exact eX h
 obtain ⟨rfl,hg⟩:=hq
 refine xB ?_
 refine nA (CW.ghost hg ?_)
 refine CW.seq (sR (zU ?_))
 refine rN (CW.block ?_)
 obtain ⟨r28,hr28,h⟩:=bd h
 refine CW.lp (s:=(r12,0)) (zOF x0 x1 x2 m1) (fun s13:(List (List Int)) × Int => yP [(2,T.ro (lM x2)),(3,T.ptr (qPr x0)),(4,T.ptr (zY x1)),(7,I (x0.zA.length:Int)),(8,T.ro (lV (List.replicate m1 (0:Int)))),(9,L 1 lV s13.1),(13,I s13.2)]) (fun (r28:(List (List Int))) e E => e = .exit 4 ∧ zH ⟨St,W,w0,Tryz.f103.ntmps⟩ E (yP [(9,L 1 lV r28)])) (.has ⟨rfl,rfl,rfl,rfl,rfl,rfl,rfl,trivial⟩) (fun s13 x h => ?_) hr28 (fun e E hq => ?_)
 refine CW.seq (sR (zM ?_))
 refine zM ?_
 refine wF ?_
 refine rN (cn h (fun hc h => ?_) (fun hc h => ?_))
 refine CW.skip (nA (CW.seq (CW.block (sR (zM ?_)))))
 obtain ⟨v13,hv13,h⟩:=bd h
 refine xX ?_
 refine zU ?_
 refine rN (CW.block ?_)
 obtain ⟨r26,hr26,h⟩:=bd h
 refine CW.lp (s:=(s13.1,v13)) (zSj x0 x1 x2 m1 s13) (fun s14:(List (List Int)) × Int => yP [(2,T.ro (lM x2)),(3,T.ptr (qPr x0)),(4,T.ptr (zY x1)),(7,I (x0.zA.length:Int)),(8,T.ro (lV (List.replicate m1 (0:Int)))),(9,L 1 lV s14.1),(13,I s13.2),(14,I s14.2)]) (fun (r26:(List (List Int))) e E => e = .exit 6 ∧ zH ⟨St,W,w0,Tryz.f103.ntmps⟩ E (yP [(2,T.ro (lM x2)),(3,T.ptr (qPr x0)),(4,T.ptr (zY x1)),(7,I (x0.zA.length:Int)),(8,T.ro (lV (List.replicate m1 (0:Int)))),(9,L 1 lV r26),(13,I s13.2)])) (.has ⟨rfl,rfl,rfl,rfl,rfl,rfl,rfl,rfl,trivial⟩) (fun s14 x h => ?_) hr26 (fun e E hq => ?_)
 refine CW.seq (sR (zM ?_))
 refine zM ?_
 refine wF ?_
 refine rN (cn h (fun hc h => ?_) (fun hc h => ?_))
 refine CW.skip (nA (CW.seq (CW.block (CW.seq ?_))))
 obtain ⟨r14,hr14,h⟩:=bd h
 obtain ⟨r15,hr15,h⟩:=bd h
 refine CW.dk ?_
 refine xY [(4,_)] ?_
 refine yB [(2,_)] ?_
 refine xY [(4,_)] ?_
 refine yB [(2,_)] ?_
 refine yB [(8,_)] ?_
 refine yB [(14,_)] ?_
 refine dC [(77,_),(78,_),(79,_),(80,_)] Tryz.call132 (FnK.go (t_ai.h _ _ _ _) hr14) ?_
 refine yB [(13,_)] ?_
 refine dC [(75,_),(76,_),(81,_),(82,_)] Tryz.call132 (FnK.go (t_ai.h _ _ _ _) hr15) ?_
 refine kZ [(83,_)] ?_
 refine dNA yW ?_
 refine nA (CW.ghost (zH.tr 15 83 _ rfl rfl (zB (zF (Enc.clean (f:=I)))) rfl) ?_)
 refine CW.seq ?_
 obtain ⟨r16,hr16,h⟩:=bd h
 obtain ⟨v17,hv17,h⟩:=bd h
 obtain ⟨v18,hv18,h⟩:=bd h
 obtain ⟨v19,hv19,h⟩:=bd h
 obtain ⟨v20,hv20,h⟩:=bd h
 obtain ⟨r21,hr21,h⟩:=bd h
 refine CW.dk ?_
 refine xY [(4,_)] ?_
 refine yB [(2,_)] ?_
 refine xY [(4,_)] ?_
 refine yB [(2,_)] ?_
 refine yB [(8,_)] ?_
 refine yB [(13,_)] ?_
 refine dC [(86,_),(87,_),(88,_),(89,_)] Tryz.call132 (FnK.go (t_ai.h _ _ _ _) hr16) ?_
 refine sQ [(3,_)] ?_
 refine uJ [(91,_),(3,_)] ?_
 refine yB [(13,_)] ?_
 refine zBN [(92,_),(93,_)] ?_
 refine sJ [(94,_)] ?_
 refine yB [(14,_)] ?_
 refine yB [(13,_)] ?_
 refine zEN [(96,_),(97,_)] ?_
 refine zEN [(98,_)] ?_
 refine zBN [(95,_),(99,_)] ?_
 refine sJ [(100,_)] ?_
 refine dG [(90,L 1 I r16),(84,zY x1),(85,T.ro (lM x2)),(101,T.ro (lV v20))] [([(90,some (T.ro (lV r16)))],[(90,1)]),([(102,some (T.ro (lV r21)))],[(102,0)])] ⟨rfl,rfl,rfl,rfl,trivial⟩ (fun E h => zO.gh (zH.frzG 90 _ (t':=T.ro (lV r16)) h.1 (fzO inferInstance)) <| zO.opE (uS (xs:=[.tmp 84,.tmp 85,.tmp 90,.tmp 101]) Tryz.call133 (FnK.go (t_D.h _ _ _ _) hr21) (afC (zMT h.2.1) rfl (afC (zMT h.2.2.1) rfl (afC rfl rfl (afC (zMT h.2.2.2.1) rfl afN)))) rfl ⟨trivial,trivial⟩ rfl rfl) rfl) ?_
 refine kZ [(102,_)] ?_
 refine dNA yW ?_
 refine nA (CW.to [(2,T.ro (lM x2)),(3,T.ptr (qPr x0)),(4,T.ptr (zY x1)),(7,I (x0.zA.length:Int)),(8,T.ro (lV (List.replicate m1 (0:Int)))),(9,L 1 lV s14.1),(13,I s13.2),(14,I s14.2),(15,L 1 I r15),(16,T.ro (lV r21))] ⟨rfl,rfl,rfl,rfl,rfl,rfl,rfl,rfl,rfl,rfl,trivial⟩ ?_)
 refine CW.region (zM ?_)
 refine sF ?_
 refine tX ?_
 refine zM ?_
 refine sF ?_
 refine tX ?_
 obtain ⟨v22,hv22,h⟩:=bd h
 refine zMQ ?_
 refine zM ?_
 obtain ⟨r23,hr23,h⟩:=bd h
 refine cA Tryz.call43 (FnK.go (t_o.h _ _ _ _) hr23) ?_
 refine oP (jK elt_23 [.tmp 111] [.slot 111 (L 1 I r23)] [r23] lV ⟨.slot _ _,trivial⟩ (pkS rfl (zB (zF (Enc.clean (f:=I)))) rfl pkN) rfl rfl) ?_
 refine RW.ghost (zH.tr 103 9 _ rfl rfl (zB (zF (Enc.clean (f:=lV)))) rfl) ?_
 obtain ⟨v24,hv24,h⟩:=bd h
 refine oP (sP (f:=lV) elt_23 hv24 rfl rfl rfl) ?_
 refine zU ?_
 refine RW.ghost (zH.tr 9 113 _ rfl rfl (zB (zF (Enc.clean (f:=lV)))) rfl) ?_
 refine RW.nil ?_
 refine nB (nA (CW.region (zM ?_)))
 obtain ⟨v25,hv25,h⟩:=bd h
 refine xX ?_
 refine zU ?_
 refine RW.nil ?_
 exact eN h
 refine CW.exit (xA ?_)
 exact eX h
 obtain ⟨rfl,hg⟩:=hq
 refine xB ?_
 refine nB (nA (CW.ghost hg ?_))
 refine CW.region (zM ?_)
 obtain ⟨v27,hv27,h⟩:=bd h
 refine xX ?_
 refine zU ?_
 refine RW.nil ?_
 exact eN h
 refine CW.exit (xA ?_)
 exact eX h
 obtain ⟨rfl,hg⟩:=hq
 refine xB ?_
 refine nA (CW.ghost hg ?_)
 refine sR (zM ?_)
 refine zU ?_
 refine RW.ghost (zH.tr 6 9 _ rfl rfl (zB (zF (Enc.clean (f:=lV)))) rfl) ?_
 refine rN (CW.ret ?_)
 obtain rfl:=sI h
 exact rT
instance t_n:FI Tryz.prog 103 (∀ (x0:SPr) (x1:zD) (x2:List (List Int)),FnK Tryz.prog 103 [qPr x0,zY x1,T.ro (lM x2)] (fun r:(List (List Int)) => [lM r]) (fun _ => []) (f_n x0 x1 x2)):=⟨Tryz.call103,fun x0 x1 x2 => FnK.mk (u_n x0 x1 x2)⟩
section
attribute [local irreducible] RW CW DK OkL Ok xQ xR vL vW XS.post rng uZ uA ixO zT xP wZ yS zI GTo zH FnC FnK uG sG Kp Lk BsL BuL RpL Bk Lc
instance (x0:SPr) (x1:zD) (v1:Int):LH (R:=(List (List Int))) (zKQ x0 x1 v1) [2,3,5] [] (fun s1 => [(6,L 1 lV s1.1),(7,I s1.2)]) (.xe 0 [2,3,5] fun r9 => [(6,L 1 lV r9)]):=⟨⟩
instance t_aJ:FI Tryz.prog 70 (∀ (x0:SPr) (x1:zD),FnK Tryz.prog 70 [qPr x0,zY x1] (fun r:(List (List Int)) => [lM r]) (fun _ => []) (zT9 x0 x1)):=⟨Tryz.call70,fun x0 x1 => iF Tryz.func70⟩
instance (x0:List Int):LH (R:=Int) (zHh x0) [0] [] (fun s1 => [(3,I s1)]) (.xs (.xe 0 [] fun _ => []) .xr):=⟨⟩
instance t_x:FI Tryz.prog 77 (∀ (x0:List Int),FnK Tryz.prog 77 [T.ro (lV x0)] (fun r:Int => [I r]) (fun _ => []) (f_x x0)):=⟨Tryz.call77,fun x0 => iF Tryz.func77⟩
instance (x0:Int) (x1:List (List Int)):LH (R:=(List Int)) (zKE x0 x1) [0,1] [] (fun s1 => [(7,L 1 I s1.1),(8,I s1.2)]) (.xe 0 [0,1] fun r12 => [(7,L 1 I r12)]):=⟨⟩
instance t_ad:FI Tryz.prog 53 (∀ (x0:Int) (x1:List (List Int)) (x2:List Int),FnK Tryz.prog 53 [I x0,T.ro (lM x1),T.ro (lV x2)] (fun r:(List Int) => [lV r]) (fun _ => []) (zOy x0 x1 x2)):=⟨Tryz.call53,fun x0 x1 x2 => iF Tryz.func53⟩
instance (x0:Int) (x1:Int):LH (R:=Int) (zKF x0 x1) [0,1] [] (fun s1 => [(5,I s1)]) (.xs (.xe 0 [0,1] fun _ => []) .xr):=⟨⟩
instance t_aw:FI Tryz.prog 115 (∀ (x0:Int) (x1:Int),FnK Tryz.prog 115 [I x0,I x1] (fun r:Int => [I r]) (fun _ => []) (zTx x0 x1)):=⟨Tryz.call115,fun x0 x1 => iF Tryz.func115⟩
instance t_bb:FI Tryz.prog 71 (∀ (x0:Int) (x1:Int) (x2:List Int),FnK Tryz.prog 71 [I x0,I x1,T.ro (lV x2)] (fun r:(List Int) => [lV r]) (fun _ => []) (zOz x0 x1 x2)):=⟨Tryz.call71,fun x0 x1 x2 => iF Tryz.func71⟩
end
end Go.Wk

namespace Go.Wk
open Go Go.Proofs Go.Ab
set_option maxRecDepth 100000
set_option maxHeartbeats 1000000
theorem u_m (x0:Int) (x1:List (List Int)) (r:(List (List Int))) (h:f_m x0 x1 = some r):FnC Tryz.prog 78 [I x0,T.ro (lM x1)] [(L 1 (Ro lV)) r] []:=by
 refine fB Tryz.func78 (fun St W w0 v => ?_)
 refine sR (oP (tK 1 rfl) ?_)
 refine rN (sR (oP (zFT elt_23 rfl) ?_))
 refine zU ?_
 refine RW.ghost (zH.tr 5 12 _ rfl rfl (zB trivial) rfl) ?_
 refine rN (CW.seq (sR (zU ?_)))
 refine rN (CW.block ?_)
 obtain ⟨r36,hr36,h⟩:=bd h
 refine CW.lp (s:=([],0)) (zO0 x0 x1) (fun s5:(List (List Int)) × Int => yP [(0,I x0),(1,T.ro (lM x1)),(5,L 1 (Ro lV) s5.1),(6,I s5.2)]) (fun (r36:(List (List Int))) e E => e = .exit 0 ∧ zH ⟨St,W,w0,Tryz.f78.ntmps⟩ E (yP [(5,L 1 (Ro lV) r36)])) (.has ⟨rfl,rfl,rfl,rfl,trivial⟩) (fun s5 x h => ?_) hr36 (fun e E hq => ?_)
 refine CW.seq (sR (zM ?_))
 refine zM ?_
 refine vE ?_
 refine wF ?_
 refine rN (cn h (fun hc h => ?_) (fun hc h => ?_))
 refine CW.skip (nA (CW.seq (CW.block (sR (zM ?_)))))
 refine zM ?_
 refine zM ?_
 refine zM ?_
 obtain ⟨v1,hv1,h⟩:=bd h
 refine qJ ?_
 refine uD ?_
 obtain ⟨r2,hr2,h⟩:=bd h
 refine cA Tryz.call53 (FnK.go (t_ad.h _ _ _) hr2) ?_
 refine zU ?_
 refine RW.ghost (zH.tr 7 25 _ rfl rfl (zB (zF (Enc.clean (f:=I)))) rfl) ?_
 refine rN (sR (zM ?_))
 obtain ⟨r3,hr3,h⟩:=bd h
 refine cA Tryz.call77 (FnK.go (t_x.h _) hr3) ?_
 refine zU ?_
 refine rN (CW.seq (sR (zM ?_)))
 refine zM ?_
 refine zFW ?_
 refine zPG ?_
 refine rN (cn h (fun hc h => ?_) (fun hc h => ?_))
 refine CW.exit (xA ?_)
 refine xB ?_
 refine nA (CW.region (zM ?_))
 obtain ⟨v4,hv4,h⟩:=bd h
 refine xX ?_
 refine zU ?_
 refine RW.nil ?_
 exact eN h
 refine CW.skip (nA (sR (zM ?_)))
 refine zM ?_
 refine zM ?_
 obtain ⟨v5,hv5,h⟩:=bd h
 refine zI3 ?_
 refine tX ?_
 refine zM ?_
 obtain ⟨r6,hr6,h⟩:=bd h
 refine cA Tryz.call115 (FnK.go (t_aw.h _ _) hr6) ?_
 refine zM ?_
 obtain ⟨r7,hr7,h⟩:=bd h
 refine cA Tryz.call71 (FnK.go (t_bb.h _ _ _) hr7) ?_
 refine RW.ghost (zH.frz 40 (k:=1) (f:=I) (g:=I) r7 rfl inferInstance) ?_
 refine zU ?_
 refine rN (CW.seq (CW.to [(0,I x0),(1,T.ro (lM x1)),(5,L 1 (Ro lV) s5.1),(6,I s5.2),(7,T.ro (lV r7)),(8,I r3)] ⟨rfl,rfl,rfl,rfl,rfl,rfl,trivial⟩ ?_))
 refine CW.region (oP (zFT elt_23 rfl) ?_)
 refine zU ?_
 refine zU ?_
 refine RW.ghost (zH.tr 9 41 _ rfl rfl (zB trivial) rfl) ?_
 refine rN (CW.seq (sR (zU ?_)))
 refine rN (CW.block ?_)
 obtain ⟨r32,hr32,h⟩:=bd h
 refine CW.lp (s:=([],false,0)) (zHi x0 s5 r3 r7) (fun s6:(List (List Int)) × Bool × Int => yP [(0,I x0),(1,T.ro (lM x1)),(5,L 1 (Ro lV) s5.1),(6,I s5.2),(7,T.ro (lV r7)),(8,I r3),(9,L 1 (Ro lV) s6.1),(10,B s6.2.1),(11,I s6.2.2)]) (fun (r32:((List (List Int)) × Bool)) e E => e = .exit 2 ∧ zH ⟨St,W,w0,Tryz.f78.ntmps⟩ E (yP [(0,I x0),(1,T.ro (lM x1)),(6,I s5.2),(7,T.ro (lV r7)),(9,L 1 (Ro lV) r32.1),(10,B r32.2)])) (.has ⟨rfl,rfl,rfl,rfl,rfl,rfl,rfl,rfl,rfl,trivial⟩) (fun s6 x h => ?_) hr32 (fun e E hq => ?_)
 refine CW.seq (sR (zM ?_))
 refine zM ?_
 refine zFW ?_
 refine wF ?_
 refine rN (cn h (fun hc h => ?_) (fun hc h => ?_))
 refine CW.skip (nA (CW.seq (CW.block (CW.seq (sR (zM ?_))))))
 refine zFV ?_
 refine zM ?_
 refine RW.cases 50 _ rfl (fun hc => ?_) (fun hc => ?_)
 have h:=cT hc h
 refine zA3 ?_
 refine zA3 ?_
 obtain ⟨v8,hv8,h⟩:=bd h
 refine RW.cons (zO.guard 2 true 50 (zAJ (f:=(Ro lV)) row_23 hv8 (vQ rfl rfl rfl rfl) rfl rfl)) ?_
 refine RW.cons (zO.guard 2 true 50 (zBd (var_22.h _ rfl rfl) rfl rfl (zN hv8 rfl) rfl)) ?_
 obtain ⟨r9,hr9,h⟩:=bd h
 refine RW.cons (zO.guard 2 true 50 (xD (xs:=[.tmp 54]) Tryz.call77 (FnK.go (t_x.h _) hr9) ⟨(agC _ rfl rfl rfl),trivial⟩ (wQ (f:=I) inferInstance wK) rfl)) ?_
 refine zA3 ?_
 refine zVJ ?_
 refine vX ?_
 refine rN (cn h (fun hc h => ?_) (fun hc h => ?_))
 refine sR (zM ?_)
 refine zM ?_
 refine oP (jK elt_23 [.tmp 60] [.slot 60 (T.ro (lV r7))] [r7] (Ro lV) ⟨.slot _ _,trivial⟩ (pkS rfl (zB trivial) rfl pkN) rfl rfl) ?_
 refine RW.ghost (zH.tr 59 9 _ rfl rfl (zB (zF (fun _ => trivial))) rfl) ?_
 obtain ⟨v10,hv10,h⟩:=bd h
 refine oP (zA1 (f:=(Ro lV)) elt_23 (fun _ => rfl) hv10 rfl (xZ rfl rfl) rfl) ?_
 refine zU ?_
 refine RW.ghost (zH.tr 9 62 _ rfl rfl (zB (zF (fun _ => trivial))) rfl) ?_
 refine rN (CW.region (zU ?_))
 refine rN ?_
 obtain ⟨v11,hv11,h⟩:=bd h
 obtain ⟨v12,hv12,h⟩:=bd h
 obtain ⟨v13,hv13,h⟩:=bd h
 obtain ⟨v14,hv14,h⟩:=bd h
 obtain ⟨r15,hr15,h⟩:=bd h
 obtain ⟨v16,hv16,h⟩:=bd h
 refine CW.dk ?_
 refine yB [(9,_)] ?_
 refine yB [(0,_)] ?_
 refine yB [(5,_)] ?_
 refine yB [(11,_)] ?_
 refine dG [(65,_),(5,_),(66,_)] [([(67,some (T.addr 5 [s6.2.2.toNat]))],[(67,0)])] ⟨rfl,rfl,rfl,trivial⟩ (fun E h => zO.opE (zAJ (f:=(Ro lV)) row_23 hv11 (vQ h.1 h.2.1 rfl rfl) h.2.2.1 rfl) rfl) ?_
 refine dG [(67,_),(5,_)] [([(68,some (T.ro (lV v11)))],[(68,0)])] ⟨rfl,rfl,trivial⟩ (fun E h => zO.opE (zBd (var_22.h _ rfl rfl) h.1 h.2.1 (zN hv11 rfl) rfl) rfl) ?_
 refine yB [(0,_)] ?_
 refine yB [(5,_)] ?_
 refine yB [(11,_)] ?_
 refine dG [(70,_),(5,_),(71,_)] [([(72,some (T.addr 5 [s6.2.2.toNat]))],[(72,0)])] ⟨rfl,rfl,rfl,trivial⟩ (fun E h => zO.opE (zAJ (f:=(Ro lV)) row_23 hv12 (vQ h.1 h.2.1 rfl rfl) h.2.2.1 rfl) rfl) ?_
 refine dG [(72,_),(5,_)] [([(73,some (T.ro (lV v12)))],[(73,0)])] ⟨rfl,rfl,trivial⟩ (fun E h => zO.opE (zBd (var_22.h _ rfl rfl) h.1 h.2.1 (zN hv12 rfl) rfl) rfl) ?_
 refine yB [(8,_)] ?_
 refine zBN [(73,_),(74,_)] ?_
 refine sJ [(75,_)] ?_
 refine zEN [(69,_),(76,_)] ?_
 refine yB [(7,_)] ?_
 refine dC [(64,_),(68,_),(77,_),(78,_)] Tryz.call43 (FnK.go (t_o.h _ _ _ _) hr15) ?_
 refine dG [(79,L 1 I r15)] [([(79,some (T.ro (lV r15)))],[(79,1)]),([(80,some (L 1 (Ro lV) [r15]))],[(80,0)])] ⟨rfl,trivial⟩ (fun E h => zO.gh (zH.frz 79 (k:=1) (f:=I) (g:=I) r15 h.1 inferInstance) <| zO.opE (jK elt_23 [.tmp 79] [.slot 79 (T.ro (lV r15))] [r15] (Ro lV) ⟨.slot _ _,trivial⟩ (pkS rfl (zB trivial) rfl pkN) rfl rfl) rfl) ?_
 refine dG [(63,T.same 9 []),(9,L 1 (Ro lV) v10),(80,L 1 (Ro lV) [r15])] [([(63,some (L 1 (Ro lV) v10)),(9,some (T.same 63 []))],[(63,1),(9,1)]),([(81,some (L 1 (Ro lV) v16)),(63,some T.any)],[(81,0),(63,1)])] ⟨rfl,rfl,rfl,trivial⟩ (fun E h => zO.gh (zH.tr 63 9 _ h.1 h.2.1 (zB (zF (fun _ => trivial))) rfl) <| zO.opE (zA1 (f:=(Ro lV)) elt_23 (fun _ => rfl) hv16 rfl (xZ (qI h.2.2.1) rfl) rfl) rfl) ?_
 refine kZ [(81,_)] ?_
 refine dNA yW ?_
 refine nB (nA (CW.to [(0,I x0),(1,T.ro (lM x1)),(5,L 1 (Ro lV) s5.1),(6,I s5.2),(7,T.ro (lV r7)),(8,I r3),(9,T.same 81 []),(10,B true),(11,I s6.2.2),(81,L 1 (Ro lV) v16)] ⟨rfl,rfl,rfl,rfl,rfl,rfl,rfl,rfl,rfl,rfl,trivial⟩ ?_))
 refine CW.region (zM ?_)
 obtain ⟨v17,hv17,h⟩:=bd h
 refine xX ?_
 refine zU ?_
 refine RW.ghost (zH.tr 9 81 _ rfl rfl (zB (zF (fun _ => trivial))) rfl) ?_
 refine RW.nil ?_
 exact eN h
 refine CW.skip (nA ?_)
 obtain ⟨v18,hv18,h⟩:=bd h
 obtain ⟨v19,hv19,h⟩:=bd h
 obtain ⟨v20,hv20,h⟩:=bd h
 obtain ⟨v21,hv21,h⟩:=bd h
 obtain ⟨r22,hr22,h⟩:=bd h
 obtain ⟨v23,hv23,h⟩:=bd h
 refine CW.dk ?_
 refine yB [(9,_)] ?_
 refine yB [(0,_)] ?_
 refine yB [(5,_)] ?_
 refine yB [(11,_)] ?_
 refine dG [(65,_),(5,_),(66,_)] [([(67,some (T.addr 5 [s6.2.2.toNat]))],[(67,0)])] ⟨rfl,rfl,rfl,trivial⟩ (fun E h => zO.opE (zAJ (f:=(Ro lV)) row_23 hv18 (vQ h.1 h.2.1 rfl rfl) h.2.2.1 rfl) rfl) ?_
 refine dG [(67,_),(5,_)] [([(68,some (T.ro (lV v18)))],[(68,0)])] ⟨rfl,rfl,trivial⟩ (fun E h => zO.opE (zBd (var_22.h _ rfl rfl) h.1 h.2.1 (zN hv18 rfl) rfl) rfl) ?_
 refine yB [(0,_)] ?_
 refine yB [(5,_)] ?_
 refine yB [(11,_)] ?_
 refine dG [(70,_),(5,_),(71,_)] [([(72,some (T.addr 5 [s6.2.2.toNat]))],[(72,0)])] ⟨rfl,rfl,rfl,trivial⟩ (fun E h => zO.opE (zAJ (f:=(Ro lV)) row_23 hv19 (vQ h.1 h.2.1 rfl rfl) h.2.2.1 rfl) rfl) ?_
 refine dG [(72,_),(5,_)] [([(73,some (T.ro (lV v19)))],[(73,0)])] ⟨rfl,rfl,trivial⟩ (fun E h => zO.opE (zBd (var_22.h _ rfl rfl) h.1 h.2.1 (zN hv19 rfl) rfl) rfl) ?_
 refine yB [(8,_)] ?_
 refine zBN [(73,_),(74,_)] ?_
 refine sJ [(75,_)] ?_
 refine zEN [(69,_),(76,_)] ?_
 refine yB [(7,_)] ?_
 refine dC [(64,_),(68,_),(77,_),(78,_)] Tryz.call43 (FnK.go (t_o.h _ _ _ _) hr22) ?_
 refine dG [(79,L 1 I r22)] [([(79,some (T.ro (lV r22)))],[(79,1)]),([(80,some (L 1 (Ro lV) [r22]))],[(80,0)])] ⟨rfl,trivial⟩ (fun E h => zO.gh (zH.frz 79 (k:=1) (f:=I) (g:=I) r22 h.1 inferInstance) <| zO.opE (jK elt_23 [.tmp 79] [.slot 79 (T.ro (lV r22))] [r22] (Ro lV) ⟨.slot _ _,trivial⟩ (pkS rfl (zB trivial) rfl pkN) rfl rfl) rfl) ?_
 refine dG [(63,T.same 9 []),(9,L 1 (Ro lV) s6.1),(80,L 1 (Ro lV) [r22])] [([(63,some (L 1 (Ro lV) s6.1)),(9,some (T.same 63 []))],[(63,1),(9,1)]),([(81,some (L 1 (Ro lV) v23)),(63,some T.any)],[(81,0),(63,1)])] ⟨rfl,rfl,rfl,trivial⟩ (fun E h => zO.gh (zH.tr 63 9 _ h.1 h.2.1 (zB (zF (fun _ => trivial))) rfl) <| zO.opE (zA1 (f:=(Ro lV)) elt_23 (fun _ => rfl) hv23 rfl (xZ (qI h.2.2.1) rfl) rfl) rfl) ?_
 refine kZ [(81,_)] ?_
 refine dNA yW ?_
 refine nB (nA (CW.to [(0,I x0),(1,T.ro (lM x1)),(5,L 1 (Ro lV) s5.1),(6,I s5.2),(7,T.ro (lV r7)),(8,I r3),(9,T.same 81 []),(10,B s6.2.1),(11,I s6.2.2),(81,L 1 (Ro lV) v23)] ⟨rfl,rfl,rfl,rfl,rfl,rfl,rfl,rfl,rfl,rfl,trivial⟩ ?_))
 refine CW.region (zM ?_)
 obtain ⟨v24,hv24,h⟩:=bd h
 refine xX ?_
 refine zU ?_
 refine RW.ghost (zH.tr 9 81 _ rfl rfl (zB (zF (fun _ => trivial))) rfl) ?_
 refine RW.nil ?_
 exact eN h
 have h:=cF hc h
 refine sk2 ?_
 refine sk2 ?_
 refine sk2 ?_
 refine sk2 ?_
 refine sk2 ?_
 refine sk2 ?_
 refine sk2 ?_
 refine vX ?_
 refine rN (CW.condF rfl ?_)
 refine CW.skip (nA ?_)
 obtain ⟨v25,hv25,h⟩:=bd h
 obtain ⟨v26,hv26,h⟩:=bd h
 obtain ⟨v27,hv27,h⟩:=bd h
 obtain ⟨v28,hv28,h⟩:=bd h
 obtain ⟨r29,hr29,h⟩:=bd h
 obtain ⟨v30,hv30,h⟩:=bd h
 refine CW.dk ?_
 refine yB [(9,_)] ?_
 refine yB [(0,_)] ?_
 refine yB [(5,_)] ?_
 refine yB [(11,_)] ?_
 refine dG [(65,_),(5,_),(66,_)] [([(67,some (T.addr 5 [s6.2.2.toNat]))],[(67,0)])] ⟨rfl,rfl,rfl,trivial⟩ (fun E h => zO.opE (zAJ (f:=(Ro lV)) row_23 hv25 (vQ h.1 h.2.1 rfl rfl) h.2.2.1 rfl) rfl) ?_
 refine dG [(67,_),(5,_)] [([(68,some (T.ro (lV v25)))],[(68,0)])] ⟨rfl,rfl,trivial⟩ (fun E h => zO.opE (zBd (var_22.h _ rfl rfl) h.1 h.2.1 (zN hv25 rfl) rfl) rfl) ?_
 refine yB [(0,_)] ?_
 refine yB [(5,_)] ?_
 refine yB [(11,_)] ?_
 refine dG [(70,_),(5,_),(71,_)] [([(72,some (T.addr 5 [s6.2.2.toNat]))],[(72,0)])] ⟨rfl,rfl,rfl,trivial⟩ (fun E h => zO.opE (zAJ (f:=(Ro lV)) row_23 hv26 (vQ h.1 h.2.1 rfl rfl) h.2.2.1 rfl) rfl) ?_
 refine dG [(72,_),(5,_)] [([(73,some (T.ro (lV v26)))],[(73,0)])] ⟨rfl,rfl,trivial⟩ (fun E h => zO.opE (zBd (var_22.h _ rfl rfl) h.1 h.2.1 (zN hv26 rfl) rfl) rfl) ?_
 refine yB [(8,_)] ?_
 refine zBN [(73,_),(74,_)] ?_
 refine sJ [(75,_)] ?_
 refine zEN [(69,_),(76,_)] ?_
 refine yB [(7,_)] ?_
 refine dC [(64,_),(68,_),(77,_),(78,_)] Tryz.call43 (FnK.go (t_o.h _ _ _ _) hr29) ?_
 refine dG [(79,L 1 I r29)] [([(79,some (T.ro (lV r29)))],[(79,1)]),([(80,some (L 1 (Ro lV) [r29]))],[(80,0)])] ⟨rfl,trivial⟩ (fun E h => zO.gh (zH.frz 79 (k:=1) (f:=I) (g:=I) r29 h.1 inferInstance) <| zO.opE (jK elt_23 [.tmp 79] [.slot 79 (T.ro (lV r29))] [r29] (Ro lV) ⟨.slot _ _,trivial⟩ (pkS rfl (zB trivial) rfl pkN) rfl rfl) rfl) ?_
 refine dG [(63,T.same 9 []),(9,L 1 (Ro lV) s6.1),(80,L 1 (Ro lV) [r29])] [([(63,some (L 1 (Ro lV) s6.1)),(9,some (T.same 63 []))],[(63,1),(9,1)]),([(81,some (L 1 (Ro lV) v30)),(63,some T.any)],[(81,0),(63,1)])] ⟨rfl,rfl,rfl,trivial⟩ (fun E h => zO.gh (zH.tr 63 9 _ h.1 h.2.1 (zB (zF (fun _ => trivial))) rfl) <| zO.opE (zA1 (f:=(Ro lV)) elt_23 (fun _ => rfl) hv30 rfl (xZ (qI h.2.2.1) rfl) rfl) rfl) ?_
 refine kZ [(81,_)] ?_
 refine dNA yW ?_
 refine nB (nA (CW.to [(0,I x0),(1,T.ro (lM x1)),(5,L 1 (Ro lV) s5.1),(6,I s5.2),(7,T.ro (lV r7)),(8,I r3),(9,T.same 81 []),(10,B s6.2.1),(11,I s6.2.2),(81,L 1 (Ro lV) v30)] ⟨rfl,rfl,rfl,rfl,rfl,rfl,rfl,rfl,rfl,rfl,trivial⟩ ?_))
 refine CW.region (zM ?_)
 obtain ⟨v31,hv31,h⟩:=bd h
 refine xX ?_
 refine zU ?_
 refine RW.ghost (zH.tr 9 81 _ rfl rfl (zB (zF (fun _ => trivial))) rfl) ?_
 refine RW.nil ?_
 exact eN h
 refine CW.exit (xA ?_)
 exact eX h
 obtain ⟨rfl,hg⟩:=hq
 refine xB ?_
 refine nA (CW.ghost hg ?_)
 refine CW.seq (sR (zM ?_))
 refine zFV ?_
 refine rN (cn h (fun hc h => ?_) (fun hc h => ?_))
 refine CW.region (zM ?_)
 refine zM ?_
 refine oP (jK elt_23 [.tmp 85] [.slot 85 (T.ro (lV r7))] [r7] (Ro lV) ⟨.slot _ _,trivial⟩ (pkS rfl (zB trivial) rfl pkN) rfl rfl) ?_
 refine RW.ghost (zH.tr 84 9 _ rfl rfl (zB (zF (fun _ => trivial))) rfl) ?_
 obtain ⟨v33,hv33,h⟩:=bd h
 refine oP (zA1 (f:=(Ro lV)) elt_23 (fun _ => rfl) hv33 rfl (xZ rfl rfl) rfl) ?_
 refine zU ?_
 refine RW.ghost (zH.tr 9 87 _ rfl rfl (zB (zF (fun _ => trivial))) rfl) ?_
 refine rN (CW.region (zM ?_))
 refine zU ?_
 refine RW.ghost (zH.tr 5 9 _ rfl rfl (zB (zF (fun _ => trivial))) rfl) ?_
 refine RW.nil ?_
 refine nB (nA (CW.region (zM ?_)))
 obtain ⟨v34,hv34,h⟩:=bd h
 refine xX ?_
 refine zU ?_
 refine RW.nil ?_
 exact eN h
 refine CW.skip (nA (CW.region (zM ?_)))
 refine zU ?_
 refine RW.ghost (zH.tr 5 9 _ rfl rfl (zB (zF (fun _ => trivial))) rfl) ?_
 refine RW.nil ?_
 refine nB (nA (CW.region (zM ?_)))
 obtain ⟨v35,hv35,h⟩:=bd h
 refine xX ?_
 refine zU ?_
 refine RW.nil ?_
 exact eN h
 refine CW.exit (xA ?_)
 exact eX h
 obtain ⟨rfl,hg⟩:=hq
 refine xB ?_
 refine nA (CW.ghost hg ?_)
 refine sR (zM ?_)
 refine zU ?_
 refine RW.ghost (zH.tr 4 5 _ rfl rfl (zB (zF (fun _ => trivial))) rfl) ?_
 refine rN (CW.ret ?_)
 obtain rfl:=sI h
 exact rT
instance t_m:FI Tryz.prog 78 (∀ (x0:Int) (x1:List (List Int)),FnK Tryz.prog 78 [I x0,T.ro (lM x1)] (fun r:(List (List Int)) => [(L 1 (Ro lV)) r]) (fun _ => []) (f_m x0 x1)):=⟨Tryz.call78,fun x0 x1 => FnK.mk (u_m x0 x1)⟩
section
attribute [local irreducible] RW CW DK OkL Ok xQ xR vL vW XS.post rng uZ uA ixO zT xP wZ yS zI GTo zH FnC FnK uG sG Kp Lk BsL BuL RpL Bk Lc
instance t_aQ:FI Tryz.prog 80 (∀ (x0:Int),FnK Tryz.prog 80 [I x0] (fun r:Bool => [B r]) (fun _ => []) (zOt x0)):=⟨Tryz.call80,fun x0 => iF Tryz.func80⟩
instance t_aP:FI Tryz.prog 81 (∀ (x0:Int) (x1:Int) (x2:Int),FnK Tryz.prog 81 [I x0,I x1,I x2] (fun r:Bool => [B r]) (fun _ => []) (zMd x0 x1 x2)):=⟨Tryz.call81,fun x0 x1 x2 => iF Tryz.func81⟩
instance (x0:SPr) (x1:List Int):LH (R:=Bool) (zN4 x0 x1) [0,15,16] [] (fun s1 => [(17,I s1)]) (.xs (.xe 0 [0,15,16] fun _ => []) .xr):=⟨⟩
instance t_aR:FI Tryz.prog 154 (∀ (x0:SPr) (x1:List Int),FnK Tryz.prog 154 [T.ro ((Pt xU) x0),T.ro (lV x1)] (fun r:Bool => [B r]) (fun _ => []) (zTm x0 x1)):=⟨Tryz.call154,fun x0 x1 => iF Tryz.func154⟩
instance (x0:List Int):LH (R:=Bool) (zK4 x0) [5,6] [] (fun s1 => [(7,I s1)]) (.xs (.xe 0 [5,6] fun _ => []) .xr):=⟨⟩
instance t_A:FI Tryz.prog 99 (∀ (x0:List Int),FnK Tryz.prog 99 [T.ro (lV x0)] (fun r:Bool => [B r]) (fun _ => []) (f_A x0)):=⟨Tryz.call99,fun x0 => iF Tryz.func99⟩
instance t_bj:FI Tryz.prog 145 (∀ (x0:SPr) (x1:Int) (x2:List Int),FnK Tryz.prog 145 [T.ro ((Pt xU) x0),I x1,T.ro (lV x2)] (fun r:Bool => [B r]) (fun _ => []) (zRm x0 x1 x2)):=⟨Tryz.call145,fun x0 x1 x2 => iF Tryz.func145⟩
instance (x0:SPr):LH (R:=Bool) (zMe x0) [1,3,30,31] [] (fun s1 => [(4,I s1.1),(32,I s1.2)]) (.xs (.xe 0 [30,31] fun _ => []) .xr):=⟨⟩
instance (x0:SPr) (s7:Int) (v12:List (List Int)):LH (R:=Bool) (zRn x0 s7 v12) [1,3,7,49,50,78,79] [] (fun s8 => [(80,I s8)]) (.xs (.xe 4 [7,78,79] fun _ => []) .xr):=⟨⟩
instance (x0:SPr):LH (R:=Bool) (zMf x0) [1,3,49] [] (fun s7 => [(50,I s7)]) (.xs (.xe 2 [1,3,49] fun _ => []) .xr):=⟨⟩
instance t_q:FI Tryz.prog 116 (∀ (x0:SPr),FnK Tryz.prog 116 [qPr x0] (fun r:Bool => [B r]) (fun _ => []) (f_q x0)):=⟨Tryz.call116,fun x0 => iF Tryz.func116⟩
end
theorem u_w (x0:List Int) (r:(List Int)) (h:f_w x0 = some r):FnC Tryz.prog 94 [T.ro (lV x0)] [lV r] []:=by
 refine fB Tryz.func94 (fun St W w0 v => ?_)
 refine sR (oP (tK 1 rfl) ?_)
 refine rN (CW.seq (sR (zM ?_)))
 refine RW.isnil Tryz.underlying22 (xZ rfl rfl) (.inl rfl) rfl rfl (fun b1 hb1 => ?_)
 refine rN (CW.cond _ rfl (fun hc => ?_) (fun hc => ?_))
 have hx:=hb1 hc
 subst hx
 have h:some ([]) = some r:=by simpa [xP,f_w] using h
 refine sR (oP (tK 1 rfl) ?_)
 refine rN (CW.ret (rA ?_))
 obtain rfl:=sI h
 exact rT
 refine CW.skip (nA (sR (oP (zFT elt_22 rfl) ?_)))
 refine zM ?_
 obtain ⟨v2,hv2,h⟩:=bd h
 refine oP (zLh (f:=I) (g:=I) elt_22 (fun _ => rfl) (fun _ => rfl) inferInstance hv2 rfl (xZ rfl rfl) rfl) ?_
 refine zU ?_
 refine RW.ghost (zH.tr 2 7 _ rfl rfl (zB (zF (Enc.clean (f:=I)))) rfl) ?_
 refine rN (CW.ret ?_)
 obtain rfl:=sI h
 exact rT
instance t_w:FI Tryz.prog 94 (∀ (x0:List Int),FnK Tryz.prog 94 [T.ro (lV x0)] (fun r:(List Int) => [lV r]) (fun _ => []) (f_w x0)):=⟨Tryz.call94,fun x0 => FnK.mk (u_w x0)⟩
section
attribute [local irreducible] RW CW DK OkL Ok xQ xR vL vW XS.post rng uZ uA ixO zT xP wZ yS zI GTo zH FnC FnK uG sG Kp Lk BsL BuL RpL Bk Lc
instance (x2:Int) (r3:(List Int)):LH (R:=(List Int)) (zRo x2 r3) [0,2,6,16] [] (fun s1 => [(1,L 1 I s1.1),(17,I s1.2)]) (.xe 0 [16] fun r8 => [(1,L 1 I r8)]):=⟨⟩
instance (g_c:SPr → (List Int) → (List Int) → Option (List Int)) (x0:SPr) (x2:Int) (s7:(List Int) × Int) (v17:Int):LH (R:=(List Int)) (zVu g_c x0 x2 s7 v17) [0,2,8,58,59,60,65] [] (fun s8 => [(1,L 1 I s8.1),(66,I s8.2)]) (.xe 4 [8,65] fun r22 => [(1,L 1 I r22)]):=⟨⟩
instance (g_c:SPr → (List Int) → (List Int) → Option (List Int)) (x0:SPr) (x2:Int) (r3:(List Int)):LH (R:=(List Int)) (zVv g_c x0 x2 r3) [0,2,58,59] [] (fun s7 => [(1,L 1 I s7.1),(60,I s7.2)]) (.xe 2 [0,2,58,59] fun r24 => [(1,L 1 I r24)]):=⟨⟩
instance (g_c:SPr → (List Int) → (List Int) → Option (List Int)) (x0:SPr) (x2:Int) (s15:(List Int) × Int) (v25:Int):LH (R:=(List Int)) (zVw g_c x0 x2 s15 v25) [0,2,8,58,59,60,65] [] (fun s16 => [(1,L 1 I s16.1),(66,I s16.2)]) (.xe 4 [8,65] fun r30 => [(1,L 1 I r30)]):=⟨⟩
instance (g_c:SPr → (List Int) → (List Int) → Option (List Int)) (x0:SPr) (x2:Int) (r3:(List Int)):LH (R:=(List Int)) (zVx g_c x0 x2 r3) [0,2,58,59] [] (fun s15 => [(1,L 1 I s15.1),(60,I s15.2)]) (.xe 2 [0,2,58,59] fun r32 => [(1,L 1 I r32)]):=⟨⟩
theorem zXK {g_c:SPr → (List Int) → (List Int) → Option (List Int)} [FI Tryz.prog 157 (∀ (x0:SPr) (x1:List Int) (x2:List Int),FnK Tryz.prog 157 [T.ro ((Pt xU) x0),L 1 I x1,T.ro (lV x2)] (fun _:(List Int) => []) (fun r => [(1,lV r)]) (g_c x0 x1 x2))]:∀ (x0:SPr) (x1:List Int) (x2:Int),FnK Tryz.prog 164 [T.ro ((Pt xU) x0),L 1 I x1,I x2] (fun _:(List Int) => []) (fun r => [(1,lV r)]) (b_b g_c x0 x1 x2):=fun x0 x1 x2 => iF Tryz.func164
theorem zXL {g_c:SPr → (List Int) → (List Int) → Option (List Int)} (H_c:∀ (x0:SPr) (x1:List Int) (x2:List Int) r,g_c x0 x1 x2 = some r → FnC Tryz.prog 157 [T.ro ((Pt xU) x0),L 1 I x1,T.ro (lV x2)] [] [(1,lV r)]) (x0:SPr) (x1:List Int) (x2:Int) (r:(List Int)) (h:b_b g_c x0 x1 x2 = some r):FnC Tryz.prog 164 [T.ro ((Pt xU) x0),L 1 I x1,I x2] [] [(1,lV r)]:=by
 have:FI Tryz.prog 157 (∀ (x0:SPr) (x1:List Int) (x2:List Int),FnK Tryz.prog 157 [T.ro ((Pt xU) x0),L 1 I x1,T.ro (lV x2)] (fun _:(List Int) => []) (fun r => [(1,lV r)]) (g_c x0 x1 x2)):=⟨Tryz.call157,fun x0 x1 x2 => FnK.mk (H_c x0 x1 x2)⟩
 exact (zXK x0 x1 x2).go h
instance (g_b:SPr → (List Int) → Int → Option (List Int)) (x0:SPr) (s5:(List Int) × Int) (v1:Int):LH (R:=(List Int)) (zRp g_b x0 s5 v1) [0,6,8,9,10,15] [] (fun s6 => [(1,L 1 I s6.1),(16,I s6.2)]) (.xe 2 [6,15] fun r4 => [(1,L 1 I r4)]):=⟨⟩
instance (g_b:SPr → (List Int) → Int → Option (List Int)) (x0:SPr) (x2:List Int):LH (R:=(List Int)) (zRq g_b x0 x2) [0,8,9] [] (fun s5 => [(1,L 1 I s5.1),(10,I s5.2)]) (.xe 0 [0,8,9] fun r6 => [(1,L 1 I r6)]):=⟨⟩
theorem zXM {g_b:SPr → (List Int) → Int → Option (List Int)} [FI Tryz.prog 164 (∀ (x0:SPr) (x1:List Int) (x2:Int),FnK Tryz.prog 164 [T.ro ((Pt xU) x0),L 1 I x1,I x2] (fun _:(List Int) => []) (fun r => [(1,lV r)]) (g_b x0 x1 x2))]:∀ (x0:SPr) (x1:List Int) (x2:List Int),FnK Tryz.prog 157 [T.ro ((Pt xU) x0),L 1 I x1,T.ro (lV x2)] (fun _:(List Int) => []) (fun r => [(1,lV r)]) (b_c g_b x0 x1 x2):=fun x0 x1 x2 => iF Tryz.func157
theorem zXN {g_b:SPr → (List Int) → Int → Option (List Int)} (H_b:∀ (x0:SPr) (x1:List Int) (x2:Int) r,g_b x0 x1 x2 = some r → FnC Tryz.prog 164 [T.ro ((Pt xU) x0),L 1 I x1,I x2] [] [(1,lV r)]) (x0:SPr) (x1:List Int) (x2:List Int) (r:(List Int)) (h:b_c g_b x0 x1 x2 = some r):FnC Tryz.prog 157 [T.ro ((Pt xU) x0),L 1 I x1,T.ro (lV x2)] [] [(1,lV r)]:=by
 have:FI Tryz.prog 164 (∀ (x0:SPr) (x1:List Int) (x2:Int),FnK Tryz.prog 164 [T.ro ((Pt xU) x0),L 1 I x1,I x2] (fun _:(List Int) => []) (fun r => [(1,lV r)]) (g_b x0 x1 x2)):=⟨Tryz.call164,fun x0 x1 x2 => FnK.mk (H_b x0 x1 x2)⟩
 exact (zXM x0 x1 x2).go h
end
theorem zXj:∀ n,(∀ (x0:SPr) (x1:List Int) (x2:Int) r,zRr n x0 x1 x2 = some r → FnC Tryz.prog 164 [T.ro ((Pt xU) x0),L 1 I x1,I x2] [] [(1,lV r)]) ∧ (∀ (x0:SPr) (x1:List Int) (x2:List Int) r,zOu n x0 x1 x2 = some r → FnC Tryz.prog 157 [T.ro ((Pt xU) x0),L 1 I x1,T.ro (lV x2)] [] [(1,lV r)]):=by
  intro n
  induction n with
  | zero => exact ⟨(fun _ _ _ r h => by simp [zRr] at h),(fun _ _ _ r h => by simp [zOu] at h)⟩
  | succ n ih => exact ⟨(fun x0 x1 x2 r h => zXL ih.2 x0 x1 x2 r (by simpa [zRr] using h)),(fun x0 x1 x2 r h => zXN ih.1 x0 x1 x2 r (by simpa [zOu] using h))⟩
theorem u_b (x0:SPr) (x1:List Int) (x2:Int) (r:(List Int)) (h:f_b x0 x1 x2 = some r):FnC Tryz.prog 164 [T.ro ((Pt xU) x0),L 1 I x1,I x2] [] [(1,lV r)]:=by
 obtain ⟨n,hn⟩:=qR h
 exact (zXj n).1 x0 x1 x2 r hn
theorem u_c (x0:SPr) (x1:List Int) (x2:List Int) (r:(List Int)) (h:f_c x0 x1 x2 = some r):FnC Tryz.prog 157 [T.ro ((Pt xU) x0),L 1 I x1,T.ro (lV x2)] [] [(1,lV r)]:=by
 obtain ⟨n,hn⟩:=qR h
 exact (zXj n).2 x0 x1 x2 r hn
instance t_b:FI Tryz.prog 164 (∀ (x0:SPr) (x1:List Int) (x2:Int),FnK Tryz.prog 164 [T.ro ((Pt xU) x0),L 1 I x1,I x2] (fun _:(List Int) => []) (fun r => [(1,lV r)]) (f_b x0 x1 x2)):=⟨Tryz.call164,fun x0 x1 x2 => FnK.mk (u_b x0 x1 x2)⟩
instance t_c:FI Tryz.prog 157 (∀ (x0:SPr) (x1:List Int) (x2:List Int),FnK Tryz.prog 157 [T.ro ((Pt xU) x0),L 1 I x1,T.ro (lV x2)] (fun _:(List Int) => []) (fun r => [(1,lV r)]) (f_c x0 x1 x2)):=⟨Tryz.call157,fun x0 x1 x2 => FnK.mk (u_c x0 x1 x2)⟩
section
attribute [local irreducible] RW CW DK OkL Ok xQ xR vL vW XS.post rng uZ uA ixO zT xP wZ yS zI GTo zH FnC FnK uG sG Kp Lk BsL BuL RpL Bk Lc
instance (x0:SPr) (x1:List Int) (x2:Int):LH (R:=(List Int)) (zK5 x0 x1 x2) [0,1,11] [] (fun s1 => [(7,L 1 I s1.1),(12,I s1.2)]) (.xe 0 [0,1,11] fun r4 => [(7,L 1 I r4)]):=⟨⟩
instance t_aF:FI Tryz.prog 148 (∀ (x0:SPr) (x1:List Int) (x2:Int),FnK Tryz.prog 148 [T.ro ((Pt xU) x0),T.ro (lV x1),I x2] (fun r:(List Int) => [lV r]) (fun _ => []) (zTn x0 x1 x2)):=⟨Tryz.call148,fun x0 x1 x2 => iF Tryz.func148⟩
instance (x0:SPr) (v3:List Int) (v6:Int):LH (R:=(List Int)) (zRs x0 v3 v6) [0,1,2,9,19,20,21,32] [] (fun s6 => [(7,L 1 I s6.1),(33,I s6.2)]) (.xe 2 [9,32] fun r9 => [(7,L 1 I r9)]):=⟨⟩
instance (x0:SPr) (x1:Int) (x2:List Int) (v2:List (List Int)):LH (R:=(List Int)) (zRt x0 x1 x2 v2) [0,1,2,19,20] [] (fun s5 => [(7,L 1 I s5.1),(21,I s5.2)]) (.xe 0 [0,1,2,19,20] fun r11 => [(7,L 1 I r11)]):=⟨⟩
instance t_B:FI Tryz.prog 149 (∀ (x0:SPr) (x1:Int) (x2:List Int),FnK Tryz.prog 149 [T.ro ((Pt xU) x0),I x1,T.ro (lV x2)] (fun r:(List Int) => [lV r]) (fun _ => []) (f_B x0 x1 x2)):=⟨Tryz.call149,fun x0 x1 x2 => iF Tryz.func149⟩
instance (x0:List Int) (x1:List Int):LH (R:=Bool) (zVy x0 x1) [0,1,12] [] (fun s1 => [(13,I s1)]) (.xs (.xe 0 [0,1,12] fun _ => []) .xr):=⟨⟩
instance t_W:FI Tryz.prog 121 (∀ (x0:List Int) (x1:List Int),FnK Tryz.prog 121 [T.ro (lV x0),T.ro (lV x1)] (fun r:Bool => [B r]) (fun _ => []) (f_W x0 x1)):=⟨Tryz.call121,fun x0 x1 => iF Tryz.func121⟩
instance (x0:SPr) (s5:(List Int) × (List Int) × Int):LH (R:=(List Int)) (zOv x0 s5) [0,7,14,15] [] (fun s6 => [(5,L 1 I s6.1),(6,L 1 I s6.2)]) (.xe 2 [7] fun r6 => [(5,L 1 I r6.1),(6,L 1 I r6.2)]):=⟨⟩
instance (x0:SPr) (r1:(List Int)):LH (R:=(List Int)) (zRu x0 r1) [0,14] [] (fun s5 => [(5,L 1 I s5.1),(6,L 1 I s5.2.1),(15,I s5.2.2)]) (.xe 0 [0,14] fun r8 => [(6,L 1 I r8)]):=⟨⟩
instance t_I:FI Tryz.prog 159 (∀ (x0:SPr) (x1:List Int),FnK Tryz.prog 159 [T.ro ((Pt xU) x0),T.ro (lV x1)] (fun r:(List Int) => [lV r]) (fun _ => []) (f_I x0 x1)):=⟨Tryz.call159,fun x0 x1 => iF Tryz.func159⟩
instance t_bk:FI Tryz.prog 158 (∀ (x0:SPr) (x1:List Int) (x2:List Int),FnK Tryz.prog 158 [T.ro ((Pt xU) x0),T.ro (lV x1),T.ro (lV x2)] (fun r:(List Int) => [lV r]) (fun _ => []) (zRv x0 x1 x2)):=⟨Tryz.call158,fun x0 x1 x2 => iF Tryz.func158⟩
instance t_bl:FI Tryz.prog 150 (∀ (x0:SPr) (x1:List Int) (x2:List Int),FnK Tryz.prog 150 [T.ro ((Pt xU) x0),T.ro (lV x1),T.ro (lV x2)] (fun r:(List Int) => [lV r]) (fun _ => []) (zRw x0 x1 x2)):=⟨Tryz.call150,fun x0 x1 x2 => iF Tryz.func150⟩
instance t_aG:FI Tryz.prog 93 (∀ (x0:Int) (x1:Int),FnK Tryz.prog 93 [I x0,I x1] (fun r:(List Int) => [lV r]) (fun _ => []) (zIO x0 x1)):=⟨Tryz.call93,fun x0 x1 => iF Tryz.func93⟩
instance (x0:SPr) (x1:Int):LH (R:=yU) (zRx x0 x1) [0,1,4,5,6] [] (fun s1 => [(7,I s1)]) (.xs (.xe 0 [] fun _ => []) .xr):=⟨⟩
instance (x0:SPr) (x1:Int) (s7:Int):LH (R:=yU) (zRy x0 x1 s7) [0,1,4,5,6,8] [] (fun s8 => [(9,I s8)]) (.xs (.xe 4 [] fun _ => []) .xr):=⟨⟩
instance (x0:SPr) (x1:Int):LH (R:=yU) (zRz x0 x1) [0,1,4,5,6] [] (fun s7 => [(8,I s7)]) (.xs (.xe 2 [] fun _ => []) .xr):=⟨⟩
instance (x0:SPr) (x1:Int) (v39:Int):LH (R:=yU) (zR0 x0 x1 v39) [0,1,4,5,6,10,11,159] [] (fun s16 => [(12,L 1 I s16.1),(160,I s16.2)]) (.xe 8 [159] fun r42 => [(12,L 1 I r42)]):=⟨⟩
instance (x0:SPr) (x1:Int) (v34:List Int):LH (R:=yU) (zR1 x0 x1 v34) [0,1,4,5,6,10] [] (fun s15 => [(11,I s15)]) (.xs (.xe 6 [0,1,5,6,10] fun _ => []) .xr):=⟨⟩
instance t_k:FI Tryz.prog 126 (∀ (x0:SPr) (x1:Int),FnK Tryz.prog 126 [T.ro ((Pt xU) x0),I x1] (fun r:yU => [zFt r]) (fun _ => []) (f_k x0 x1)):=⟨Tryz.call126,fun x0 x1 => iF Tryz.func126⟩
instance (x0:SPr):LH (R:=Int) (zK6 x0) [0] [] (fun s1 => [(3,I s1)]) (.xe 0 [0] fun r4 => [(3,I r4)]):=⟨⟩
instance t_O:FI Tryz.prog 90 (∀ (x0:SPr),FnK Tryz.prog 90 [T.ro ((Pt xU) x0)] (fun r:Int => [I r]) (fun _ => []) (f_O x0)):=⟨Tryz.call90,fun x0 => iF Tryz.func90⟩
instance t_aY:FI Tryz.prog 79 (∀ (x0:SPr),FnK Tryz.prog 79 [qPr x0] (fun r:Bool => [B r]) (fun _ => []) (zTo x0)):=⟨Tryz.call79,fun x0 => iF Tryz.func79⟩
instance t_aZ:FI Tryz.prog 83 (∀ (x0:zD) (x1:Int),FnK Tryz.prog 83 [T.ro ((Pt yC) x0),I x1] (fun r:zV => [(fun x => T.agg [I x.Prime,I x.xJ,(Ro lM) x.Rows]) r]) (fun _ => []) (zMg x0 x1)):=⟨Tryz.call83,fun x0 x1 => iF Tryz.func83⟩
instance (x0:List Int) (x1:Int):LH (R:=Bool) (zN5 x0 x1) [1,13,14] [] (fun s1 => [(15,I s1)]) (.xs (.xe 0 [1,13,14] fun _ => []) .xr):=⟨⟩
instance t_aH:FI Tryz.prog 117 (∀ (x0:List Int) (x1:Int) (x2:Int),FnK Tryz.prog 117 [T.ro (lV x0),I x1,I x2] (fun r:Bool => [B r]) (fun _ => []) (zR2 x0 x1 x2)):=⟨Tryz.call117,fun x0 x1 x2 => iF Tryz.func117⟩
instance (x0:zV):LH (R:=Bool) (zK7 x0) [1,22,23] [] (fun s1 => [(24,I s1)]) (.xs (.xe 0 [1,22,23] fun _ => []) .xr):=⟨⟩
instance t_au:FI Tryz.prog 82 (∀ (x0:zV),FnK Tryz.prog 82 [uF x0] (fun r:Bool => [B r]) (fun _ => []) (zTp x0)):=⟨Tryz.call82,fun x0 => iF Tryz.func82⟩
instance t_bG:FI Tryz.prog 156 (∀ (x0:Int) (x1:Int),FnK Tryz.prog 156 [(IK .u64) x0,(IK .u64) x1] (fun r:Int × Int => [(IK .u64) r.1,(IK .u64) r.2]) (fun _ => []) (zXk x0 x1)):=⟨Tryz.call156,fun x0 x1 => iF Tryz.func156⟩
instance t_bm:FI Tryz.prog 146 (∀ (x0:Int) (x1:Int),FnK Tryz.prog 146 [(IK .u64) x0,(IK .u64) x1] (fun r:Int × Int => [(IK .u64) r.1,(IK .u64) r.2]) (fun _ => []) (zTq x0 x1)):=⟨Tryz.call146,fun x0 x1 => iF Tryz.func146⟩
end
end Go.Wk

namespace Go.Wk
open Go Go.Proofs Go.Ab
set_option maxRecDepth 100000
set_option maxHeartbeats 1000000
theorem u_i (x0:List Int) (x1:Int) (r:(List Int)) (h:f_i x0 x1 = some r):FnC Tryz.prog 118 [T.ro (lV x0),I x1] [lV r] []:=by
 refine fB Tryz.func118 (fun St W w0 v => ?_)
 refine sR (oP (tK 1 rfl) ?_)
 refine rN (CW.seq (sR (zM ?_)))
 refine wF ?_
 refine rN (cn h (fun hc h => ?_) (fun hc h => ?_))
 ·refine CW.region ?_
  cases h
 ·refine CW.skip (nA (sR (zM ?_)))
  refine vE ?_
  refine oP (zIx Tryz.underlying3 Tryz.underlying151 rfl rfl) ?_
  refine zM ?_
  refine oP (zIx Tryz.underlying3 Tryz.underlying151 rfl rfl) ?_
  obtain ⟨r1,hr1,h⟩:=bd h
  refine cA Tryz.call146 (FnK.go (t_bm.h _ _) hr1) ?_
  refine zPH ?_
  refine zH5 ?_
  refine zH5 ?_
  refine zU ?_
  refine zU ?_
  refine rN (CW.seq (sR (zM ?_)))
  refine oP (zP8 rfl rfl rfl) ?_
  refine zM ?_
  refine RW.cases 23 _ rfl (fun hc => ?_) (fun hc => ?_)
  ·have h:=cT hc h
   refine sk2 ?_
   refine sk2 ?_
   refine vX ?_
   refine rN (CW.condT rfl ?_)
   refine CW.region ?_
   cases h
  ·have h:=cF hc h
   refine zA3 ?_
   refine RW.cons (zO.guard 2 false 23 (zP8 rfl rfl rfl)) ?_
   refine vX ?_
   refine rN (cn h (fun hc h => ?_) (fun hc h => ?_))
   ·refine CW.region ?_
    cases h
   ·refine CW.skip (nA (sR (zM ?_)))
    refine oP (zIx Tryz.underlying151 Tryz.underlying3 rfl rfl) ?_
    obtain ⟨m2,hm2,h⟩:=bd h
    refine oP (qX (f:=I) (z:=0) elt_22 (rfl) hm2 rfl rfl rfl) ?_
    refine zU ?_
    refine RW.ghost (zH.tr 7 30 _ rfl rfl (zB (zF (Enc.clean (f:=I)))) rfl) ?_
    refine rN (CW.seq (CW.to [(0,T.ro (lV x0)),(7,L 1 I (List.replicate m2 (0:Int)))] ⟨rfl,rfl,trivial⟩ ?_))
    refine CW.region (zM ?_)
    refine zM ?_
    refine oP (zIy elt_22 rfl (fun _ => (zBL.same rfl rfl)) (fun _ => (zEJ.ro (xZ rfl rfl))) (Nat.zero_le _) (Nat.le_refl _) rfl) ?_
    refine zU ?_
    refine rN (CW.seq (CW.block ?_))
    obtain ⟨r6,hr6,h⟩:=bd h
    refine CW.lp (s:=(wA (List.replicate m2 (0:Int)) 0 (x0.take (((List.replicate m2 (0:Int)).length) - 0)),((min x0.length (((List.replicate m2 (0:Int)).length) - 0):Nat):Int))) jS (fun s1:(List Int) × Int => yP [(7,L 1 I s1.1),(8,I s1.2)]) (fun (r6:(List Int)) e E => e = .exit 0 ∧ zH ⟨St,W,w0,Tryz.f118.ntmps⟩ E (yP [(7,L 1 I r6)])) (.has ⟨rfl,rfl,trivial⟩) (fun s1 x h => ?_) hr6 (fun e E hq => ?_)
    ·refine CW.seq (sR (zM ?_))
     refine zM ?_
     refine zFW ?_
     refine wF ?_
     refine rN (cn h (fun hc h => ?_) (fun hc h => ?_))
     ·refine CW.skip (nA (CW.block ?_))
      obtain ⟨v3,hv3,h⟩:=bd h
      obtain ⟨v4,hv4,h⟩:=bd h
      obtain ⟨v5,hv5,h⟩:=bd h
      refine CW.dk ?_
      refine yB [(8,_)] ?_
      refine yB [(7,_)] ?_
      refine yB [(8,_)] ?_
      refine dG [(39,_),(7,_),(40,_)] [([(41,some (T.sub 7 [] 1 ((s1.2:Int).toNat) ((s1.1.length:Int).toNat)))],[(41,0)])] ⟨rfl,rfl,rfl,trivial⟩ (fun E h => zO.opE (zJy row_22 hv3 (vQ h.1 h.2.1 rfl rfl) (zLg (zCo hv3) h.2.2.1) zS6 rfl) rfl) ?_
      refine yB [(7,_)] ?_
      refine yB [(8,_)] ?_
      refine dG [(42,_),(7,_),(43,_)] [([(44,some (T.sub 7 [] 1 ((0:Int).toNat) ((s1.2:Int).toNat)))],[(44,0)])] ⟨rfl,rfl,rfl,trivial⟩ (fun E h => zO.opE (zJy row_22 hv4 (vQ h.1 h.2.1 rfl rfl) zP1 (zLg (zCp hv4) h.2.2.1) rfl) rfl) ?_
      refine dG [(41,_),(7,_),(44,_)] [([(7,some (L 1 I (wA s1.1 ((s1.2:Int).toNat) (v4.take (((s1.1.length:Int).toNat) - ((s1.2:Int).toNat))))))],[(7,1)]),([(45,some (I ((min v4.length (((s1.1.length:Int).toNat) - ((s1.2:Int).toNat)):Nat):Int)))],[(45,0)])] ⟨rfl,rfl,rfl,trivial⟩ (fun E h => zO.opE (zIy elt_22 h.2.1 (fun _ => (zBL.sub h.1)) (fun _ => (zEJ.sub h.2.2.1 h.2.1 rfl hv4)) (zNI hv3) (zNJ hv3) rfl) rfl) ?_
      refine zJC [(38,_),(45,_)] ?_
      refine kZ [(46,_)] ?_
      refine dNA yW ?_
      exact nB (eN h)
     ·refine CW.exit (xA ?_)
      exact eX h
    ·obtain ⟨rfl,hg⟩:=hq
     refine xB ?_
     refine nA (CW.ghost hg ?_)
     refine sR (zM ?_)
     refine zU ?_
     refine RW.ghost (zH.tr 4 7 _ rfl rfl (zB (zF (Enc.clean (f:=I)))) rfl) ?_
     refine rN (CW.ret ?_)
     obtain rfl:=sI h
     exact rT
instance t_i:FI Tryz.prog 118 (∀ (x0:List Int) (x1:Int),FnK Tryz.prog 118 [T.ro (lV x0),I x1] (fun r:(List Int) => [lV r]) (fun _ => []) (f_i x0 x1)):=⟨Tryz.call118,fun x0 x1 => FnK.mk (u_i x0 x1)⟩
section
attribute [local irreducible] RW CW DK OkL Ok xQ xR vL vW XS.post rng uZ uA ixO zT xP wZ yS zI GTo zH FnC FnK uG sG Kp Lk BsL BuL RpL Bk Lc
instance (s5:(List Int) × Int) (v1:Int):LH (R:=(List Int)) (zR3 s5 v1) [4,6,7,8,13] [] (fun s6 => [(3,L 1 I s6.1),(14,I s6.2)]) (.xe 2 [4,13] fun r5 => [(3,L 1 I r5)]):=⟨⟩
instance (x0:List Int):LH (R:=(List Int)) (zR4 x0) [6,7] [] (fun s5 => [(3,L 1 I s5.1),(8,I s5.2)]) (.xe 0 [6,7] fun r7 => [(3,L 1 I r7)]):=⟨⟩
instance t_K:FI Tryz.prog 119 (∀ (x0:List Int),FnK Tryz.prog 119 [T.ro (lV x0)] (fun r:(List Int) => [lV r]) (fun _ => []) (f_K x0)):=⟨Tryz.call119,fun x0 => iF Tryz.func119⟩
instance (x0:SPr):LH (R:=(List ((List Int) × (List Int)))) (zR5 x0) [0,14,15] [] (fun s1 => [(3,L 2 (A2 lV) s1.1),(16,I s1.2)]) (.xe 0 [14,15] fun r8 => [(3,L 2 (A2 lV) r8)]):=⟨⟩
instance (s7:(List ((List Int) × (List Int))) × Int) (v9:List (List Int)):LH (R:=(List ((List Int) × (List Int)))) (zR6 s7 v9) [0,6,43,44,53,54] [] (fun s8 => [(3,L 2 (A2 lV) s8.1),(55,I s8.2)]) (.xe 4 [6,53,54] fun r18 => [(3,L 2 (A2 lV) r18)]):=⟨⟩
instance (x0:SPr):LH (R:=(List ((List Int) × (List Int)))) (zR7 x0) [0,43] [] (fun s7 => [(3,L 2 (A2 lV) s7.1),(44,I s7.2)]) (.xe 2 [0,43] fun r20 => [(3,L 2 (A2 lV) r20)]):=⟨⟩
instance t_t:FI Tryz.prog 84 (∀ (x0:SPr),FnK Tryz.prog 84 [T.ro ((Pt xU) x0)] (fun r:(List ((List Int) × (List Int))) => [(L 2 (A2 lV)) r]) (fun _ => []) (f_t x0)):=⟨Tryz.call84,fun x0 => iF Tryz.func84⟩
end
theorem u_Z (x0:Int) (x1:Int) (r:zV) (h:f_Z x0 x1 = some r):FnC Tryz.prog 122 [I x0,I x1] [zAe r] []:=by
 refine fB Tryz.func122 (fun St W w0 v => ?_)
 refine sR (vK ?_)
 refine rN (sR (zM ?_))
 refine zM ?_
 refine oP (qY bld_78 [(0,.tmp 8),(1,.tmp 9)] [(0,.slot 8 (I x0)),(1,.slot 9 (I x1))] [.slot 8 (I x0),.slot 9 (I x1),.zero (L 1 lV [])] (pkS rfl (zB (Enc.clean (f:=I) _)) rfl (pkS rfl (zB (Enc.clean (f:=I) _)) rfl (pkZ rfl pkN))) (bqC (.slot _ _) (bqC (.slot _ _) bqN)) rfl) ?_
 refine vK ?_
 refine oP (vJ zGP rfl (xZ rfl rfl) rfl rfl rfl rfl (zB (xE ⟨(Enc.clean (f:=I) _),(Enc.clean (f:=I) _),trivial,trivial⟩)) rfl) ?_
 refine rN (CW.seq (sR (zM ?_)))
 refine zM ?_
 refine rN (CW.block ?_)
 obtain ⟨r5,hr5,h⟩:=bd h
 refine CW.lp (s:=([],0)) (zR8 x1) (fun s1:(List (List Int)) × Int => yP [(1,I x1),(4,T.ptr (T.agg [I 0,I 0,L 1 lV []])),(5,T.ptr (T.agg [I x0,I x1,L 1 lV s1.1])),(11,I x1),(12,I s1.2)]) (fun (r5:(List (List Int))) e E => e = .exit 0 ∧ zH ⟨St,W,w0,Tryz.f122.ntmps⟩ E (yP [(4,T.ptr (T.agg [I 0,I 0,L 1 lV []])),(5,T.ptr (T.agg [I x0,I x1,L 1 lV r5]))])) (.has ⟨rfl,rfl,rfl,rfl,rfl,trivial⟩) (fun s1 x h => ?_) hr5 (fun e E hq => ?_)
 refine sR (wF ?_)
 refine rN (CW.seq (cn h (fun hc h => ?_) (fun hc h => ?_)))
 refine CW.skip (nA (CW.seq (CW.block (sR (zM ?_)))))
 refine zU ?_
 refine rN (sR (zM ?_))
 obtain ⟨m1,hm1,h⟩:=bd h
 refine oP (qX (f:=I) (z:=0) elt_22 (rfl) hm1 rfl rfl rfl) ?_
 refine zU ?_
 refine RW.ghost (zH.tr 7 16 _ rfl rfl (zB (zF (Enc.clean (f:=I)))) rfl) ?_
 refine rN (sR (zM ?_))
 refine zM ?_
 obtain ⟨v2,hv2,h⟩:=bd h
 refine zI3 ?_
 refine oP (zFR zCO rfl rfl rfl (zN hv2 rfl) (kG hv2 rfl) rfl rfl) ?_
 refine rN (CW.region (sF ?_))
 refine tX ?_
 refine zM ?_
 refine RW.ghost (zH.tr 22 7 _ rfl rfl (zB (zF (Enc.clean (f:=I)))) rfl) ?_
 refine oP (jK elt_23 [.tmp 22] [.slot 22 (L 1 I ((List.replicate m1 (0:Int)).set s1.2.toNat 1))] [(List.replicate m1 (0:Int)).set s1.2.toNat 1] lV ⟨.slot _ _,trivial⟩ (pkS rfl (zB (zF (Enc.clean (f:=I)))) rfl pkN) rfl rfl) ?_
 refine RW.ghost (zH.trq 21 5 [2,0] rfl rfl rfl (zB (zF (Enc.clean (f:=lV)))) rfl) ?_
 obtain ⟨v3,hv3,h⟩:=bd h
 refine oP (sP (f:=lV) elt_23 hv3 rfl rfl rfl) ?_
 refine sF ?_
 refine oP (zC4 zIP rfl rfl rfl rfl rfl rfl (zB (zF (Enc.clean (f:=lV)))) rfl) ?_
 refine RW.nil ?_
 refine nB (nA (CW.region ?_))
 obtain ⟨v4,hv4,h⟩:=bd h
 refine xX ?_
 refine zM ?_
 refine RW.nil ?_
 exact eN h
 refine CW.exit (xA ?_)
 exact eX h
 obtain ⟨rfl,hg⟩:=hq
 refine xB ?_
 refine nA (CW.ghost hg ?_)
 refine sR (uM ?_)
 refine RW.ghost (zH.trf 27 [2] 5 [2,0] _ _ rfl rfl rfl rfl rfl (zB (zF (Enc.clean (f:=lV)))) rfl) ?_
 refine oP (vJ zGP rfl (xZ rfl rfl) rfl rfl rfl rfl (zB (xE ⟨(Enc.clean (f:=I) _),(Enc.clean (f:=I) _),(zF (Enc.clean (f:=lV))),trivial⟩)) rfl) ?_
 refine rN (CW.ret ?_)
 obtain rfl:=sI h
 exact ⟨_,zH.refl,⟨.inl rfl,[(4,[0],T.agg [I x0,I x1,L 1 lV r5])],⟨⟨rfl,rfl,rfl,(var_78.h _ rfl rfl).h⟩,trivial⟩,rfl,(by simp),(by simp),trivial⟩⟩
instance t_Z:FI Tryz.prog 122 (∀ (x0:Int) (x1:Int),FnK Tryz.prog 122 [I x0,I x1] (fun r:zV => [zAe r]) (fun _ => []) (f_Z x0 x1)):=⟨Tryz.call122,fun x0 x1 => FnK.mk (u_Z x0 x1)⟩
section
attribute [local irreducible] RW CW DK OkL Ok xQ xR vL vW XS.post rng uZ uA ixO zT xP wZ yS zI GTo zH FnC FnK uG sG Kp Lk BsL BuL RpL Bk Lc
instance t_at:FI Tryz.prog 65 (∀ (x0:Int) (x1:Int),FnK Tryz.prog 65 [I x0,I x1] (fun r:Int => [I r]) (fun _ => []) (zHf x0 x1)):=⟨Tryz.call65,fun x0 x1 => iF Tryz.func65⟩
instance (x0:List Int) (x1:List Int) (x2:Int) (x3:Int):LH (R:=(List Int)) (zK8 x0 x1 x2 x3) [1,2,3,10] [] (fun s1 => [(0,L 1 I s1.1),(11,I s1.2)]) (.xe 0 [1,2,3,10] fun r8 => [(0,L 1 I r8)]):=⟨⟩
instance t_s:FI Tryz.prog 44 (∀ (x0:List Int) (x1:List Int) (x2:Int) (x3:Int),FnK Tryz.prog 44 [L 1 I x0,T.ro (lV x1),I x2,I x3] (fun _:(List Int) => []) (fun r => [(0,lV r)]) (f_s x0 x1 x2 x3)):=⟨Tryz.call44,fun x0 x1 x2 x3 => iF Tryz.func44⟩
instance (x0:List Int) (x1:zV):LH (R:=(List Int)) (zK9 x0 x1) [3,11,12] [] (fun s1 => [(5,L 1 I s1.1),(13,I s1.2)]) (.xe 0 [3,11,12] fun r6 => [(5,L 1 I r6)]):=⟨⟩
instance t_ah:FI Tryz.prog 147 (∀ (x0:List Int) (x1:zV),FnK Tryz.prog 147 [T.ro (lV x0),uF x1] (fun r:(List Int) => [lV r]) (fun _ => []) (zR9 x0 x1)):=⟨Tryz.call147,fun x0 x1 => iF Tryz.func147⟩
end
theorem u_Y (x0:zV) (x1:zV) (r:zV) (h:f_Y x0 x1 = some r):FnC Tryz.prog 123 [uF x0,uF x1] [zAe r] []:=by
 refine fB Tryz.func123 (fun St W w0 v => ?_)
 refine sR (zAN ?_)
 refine zAN ?_
 refine vK ?_
 refine rN (sR (sF ?_))
 refine tX ?_
 refine sF ?_
 refine tX ?_
 refine oP (qY bld_78 [(0,.tmp 9),(1,.tmp 11)] [(0,.slot 9 (I x0.Prime)),(1,.slot 11 (I x1.xJ))] [.slot 9 (I x0.Prime),.slot 11 (I x1.xJ),.zero (L 1 lV [])] (pkS rfl (zB (Enc.clean (f:=I) _)) rfl (pkS rfl (zB (Enc.clean (f:=I) _)) rfl (pkZ rfl pkN))) (bqC (.slot _ _) (bqC (.slot _ _) bqN)) rfl) ?_
 refine vK ?_
 refine oP (vJ zGP rfl (xZ rfl rfl) rfl rfl rfl rfl (zB (xE ⟨(Enc.clean (f:=I) _),(Enc.clean (f:=I) _),trivial,trivial⟩)) rfl) ?_
 refine rN (CW.seq (sR (sF ?_)))
 refine tX ?_
 refine vE ?_
 refine zM ?_
 refine rN (CW.block ?_)
 obtain ⟨r5,hr5,h⟩:=bd h
 refine CW.lp (s:=([],0)) (zRA x0 x1) (fun s1:(List (List Int)) × Int => yP [(3,T.ptr (uF x1)),(4,T.ptr (T.agg [I 0,I 0,L 1 lV []])),(5,T.ptr (T.agg [I x0.Prime,I x1.xJ,L 1 lV s1.1])),(14,T.ro (lM x0.Rows)),(15,I (x0.Rows.length:Int)),(16,I s1.2)]) (fun (r5:(List (List Int))) e E => e = .exit 0 ∧ zH ⟨St,W,w0,Tryz.f123.ntmps⟩ E (yP [(4,T.ptr (T.agg [I 0,I 0,L 1 lV []])),(5,T.ptr (T.agg [I x0.Prime,I x1.xJ,L 1 lV r5]))])) (.has ⟨rfl,rfl,rfl,rfl,rfl,rfl,trivial⟩) (fun s1 x h => ?_) hr5 (fun e E hq => ?_)
 refine sR (wF ?_)
 refine rN (CW.seq (cn h (fun hc h => ?_) (fun hc h => ?_)))
 refine CW.skip (nA (CW.seq (CW.block (sR ?_))))
 obtain ⟨v1,hv1,h⟩:=bd h
 refine qJ ?_
 refine uD ?_
 refine zU ?_
 refine rN ?_
 obtain ⟨r2,hr2,h⟩:=bd h
 obtain ⟨v3,hv3,h⟩:=bd h
 refine CW.dk ?_
 refine sQ [(5,_)] ?_
 refine uJ [(20,_),(5,_)] ?_
 refine yB [(7,_)] ?_
 refine xY [(3,_)] ?_
 refine dC [(22,_),(23,_)] Tryz.call147 (FnK.go (t_ah.h _ _) hr2) ?_
 refine dG [(24,_)] [([(25,some (L 1 lV [r2])),(24,some (T.same 25 [0]))],[(25,0),(24,1)])] ⟨rfl,trivial⟩ (fun E h => zO.opE (jK elt_23 [.tmp 24] [.slot 24 (L 1 I r2)] [r2] lV ⟨.slot _ _,trivial⟩ (pkS h.1 (zB (zF (Enc.clean (f:=I)))) rfl pkN) rfl rfl) rfl) ?_
 refine dG [(21,T.same 5 [2,0]),(5,T.ptr (T.agg [I x0.Prime,I x1.xJ,L 1 lV s1.1])),(25,L 1 lV [r2])] [([(21,some (L 1 lV s1.1)),(5,some (T.ptr (T.agg [I x0.Prime,I x1.xJ,T.any])))],[(21,1),(5,3)]),([(26,some (L 1 lV v3)),(21,some T.any),(25,some T.any)],[(26,0),(21,1),(25,1)])] ⟨rfl,rfl,rfl,trivial⟩ (fun E h => zO.gh (zH.trq 21 5 [2,0] h.1 h.2.1 rfl (zB (zF (Enc.clean (f:=lV)))) rfl) <| zO.opE (sP (f:=lV) elt_23 hv3 rfl (qI h.2.2.1) rfl) rfl) ?_
 refine sQ [(5,_)] ?_
 refine dG [(27,_),(5,_),(26,_)] [([(5,some (T.ptr (T.agg [I x0.Prime,I x1.xJ,L 1 lV v3]))),(26,some (T.same 5 [2,0]))],[(5,2),(26,1)])] ⟨rfl,rfl,rfl,trivial⟩ (fun E h => zO.opE (zC4 zIP rfl h.1 h.2.1 rfl rfl h.2.2.1 (zB (zF (Enc.clean (f:=lV)))) rfl) rfl) ?_
 refine dNA yW ?_
 refine nB (nA (CW.region ?_))
 obtain ⟨v4,hv4,h⟩:=bd h
 refine xX ?_
 refine zM ?_
 refine RW.nil ?_
 exact eN h
 refine CW.exit (xA ?_)
 exact eX h
 obtain ⟨rfl,hg⟩:=hq
 refine xB ?_
 refine nA (CW.ghost hg ?_)
 refine sR (uM ?_)
 refine RW.ghost (zH.trf 29 [2] 5 [2,0] _ _ rfl rfl rfl rfl rfl (zB (zF (Enc.clean (f:=lV)))) rfl) ?_
 refine oP (vJ zGP rfl (xZ rfl rfl) rfl rfl rfl rfl (zB (xE ⟨(Enc.clean (f:=I) _),(Enc.clean (f:=I) _),(zF (Enc.clean (f:=lV))),trivial⟩)) rfl) ?_
 refine rN (CW.ret ?_)
 obtain rfl:=sI h
 exact ⟨_,zH.refl,⟨.inl rfl,[(4,[0],T.agg [I x0.Prime,I x1.xJ,L 1 lV r5])],⟨⟨rfl,rfl,rfl,(var_78.h _ rfl rfl).h⟩,trivial⟩,rfl,(by simp),(by simp),trivial⟩⟩
instance t_Y:FI Tryz.prog 123 (∀ (x0:zV) (x1:zV),FnK Tryz.prog 123 [uF x0,uF x1] (fun r:zV => [zAe r]) (fun _ => []) (f_Y x0 x1)):=⟨Tryz.call123,fun x0 x1 => FnK.mk (u_Y x0 x1)⟩
section
attribute [local irreducible] RW CW DK OkL Ok xQ xR vL vW XS.post rng uZ uA ixO zT xP wZ yS zI GTo zH FnC FnK uG sG Kp Lk BsL BuL RpL Bk Lc
instance (x0:zD) (x1:List Int):LH (R:=zV) (zKA x0 x1) [0,4,17,18] [] (fun s1 => [(5,T.ptr (T.agg [I s1.1,I s1.2.1,L 1 lV s1.2.2.1])),(19,I s1.2.2.2)]) (.xe 0 [0,17,18] fun r7 => [(5,T.ptr (T.agg [I r7.1,I r7.2.1,L 1 lV r7.2.2]))]):=⟨⟩
instance t_aa:FI Tryz.prog 86 (∀ (x0:zD) (x1:List Int),FnK Tryz.prog 86 [T.ro ((Pt yC) x0),T.ro (lV x1)] (fun r:zV => [zAe r]) (fun _ => []) (zRB x0 x1)):=⟨Tryz.call86,fun x0 x1 => iF Tryz.func86⟩
instance (x0:List (List Int)) (x1:List (List Int)):LH (R:=Bool) (zRC x0 x1) [1,2,15,16] [] (fun s1 => [(17,I s1)]) (.xs (.xe 0 [1,2,15,16] fun _ => []) .xr):=⟨⟩
instance t_a9:FI Tryz.prog 120 (∀ (x0:List (List Int)) (x1:List (List Int)),FnK Tryz.prog 120 [T.ro (lM x0),T.ro (lM x1),T.lit (.func (.func 121) #[] #[])] (fun r:Bool => [B r]) (fun _ => []) (zVz x0 x1)):=⟨Tryz.call120,fun x0 x1 => iF Tryz.func120⟩
instance t_bn:FI Tryz.prog 85 (∀ (x0:List (List Int)) (x1:List (List Int)),FnK Tryz.prog 85 [T.ro (lM x0),T.ro (lM x1)] (fun r:Bool => [B r]) (fun _ => []) (zTr x0 x1)):=⟨Tryz.call85,fun x0 x1 => iF Tryz.func85⟩
end
theorem u_C (x0:SPr) (x1:zD) (r:Bool) (h:f_C x0 x1 = some r):FnC Tryz.prog 55 [T.ro ((Pt xU) x0),T.ro ((Pt yC) x1)] [B r] []:=by
 refine fB Tryz.func55 (fun St W w0 v => ?_)
 refine sR (zU ?_)
 refine rN (CW.seq (CW.seq ?_))
 obtain ⟨r1,hr1,h⟩:=bd h
 refine CW.casesB (!r1) (fun hc0 => ?_) (fun hc0 => ?_)
 have h:=cT hc0 h
 refine CW.dk ?_
 refine yB [(0,_)] ?_
 refine zA4 [(9,_)] ?_
 refine sJ [(10,_)] ?_
 refine dC [(11,_)] Tryz.call79 (FnK.go (t_aY.h _) hr1) ?_
 refine dG [(12,_)] [([(13,some (B true))],[(13,0)])] ⟨rfl,trivial⟩ (fun E h => zO.opE (zBf hc0 (zAK h.1 rfl)) rfl) ?_
 refine yB [(13,_)] ?_
 refine vB ?_
 refine vB ?_
 refine vB ?_
 refine vB ?_
 refine vB ?_
 refine vB ?_
 refine jV [(14,_)] ?_
 refine yB [(21,_)] ?_
 refine vB ?_
 refine vB ?_
 refine vB ?_
 refine vB ?_
 refine vB ?_
 refine vB ?_
 refine jV [(22,_)] ?_
 refine yB [(29,_)] ?_
 refine vB ?_
 refine vB ?_
 refine vB ?_
 refine vB ?_
 refine vB ?_
 refine vB ?_
 refine vB ?_
 refine vB ?_
 refine vB ?_
 refine vB ?_
 refine vB ?_
 refine jV [(30,_)] ?_
 refine dN ([] :: [0] :: [0,1] :: [0,1,2] :: [0,1,2,3] :: [0,1,2,3,4] :: [0,1,2,3,4,5] :: [0,1,2,3,4,5,6] :: [0,1,2,3,4,5,6,7] :: [0,1,2,3,4,5,6,7,8] :: [0,1,2,3,4,5,6,7,8,9] :: [0,1,2,3,4,5,6,7,8,9,10] :: [0,1,2,3,4,5,6,7,8,9,10,11] :: [0,1,2,3,4,5,6,7,8,9,10,11,12] :: [0,1,2,3,4,5,6,7,8,9,10,11,12,13] :: [0,1,2,3,4,5,6,7,8,9,10,11,12,13,14] :: [0,1,2,3,4,5,6,7,8,9,10,11,12,13,14,15] :: [0,1,2,3,4,5,6,7,8,9,10,11,12,13,14,15,16] :: [0,1,2,3,4,5,6,7,8,9,10,11,12,13,14,15,16,17] :: [0,1,2,3,4,5,6,7,8,9,10,11,12,13,14,15,16,17,18] :: [0,1,2,3,4,5,6,7,8,9,10,11,12,13,14,15,16,17,18,19] :: [0,1,2,3,4,5,6,7,8,9,10,11,12,13,14,15,16,17,18,19,20] :: [0,1,2,3,4,5,6,7,8,9,10,11,12,13,14,15,16,17,18,19,20,21] :: [0,1,2,3,4,5,6,7,8,9,10,11,12,13,14,15,16,17,18,19,20,21,22] :: [0,1,2,3,4,5,6,7,8,9,10,11,12,13,14,15,16,17,18,19,20,21,22,23] :: [0,1,2,3,4,5,6,7,8,9,10,11,12,13,14,15,16,17,18,19,20,21,22,23,24] :: [0,1,2,3,4,5,6,7,8,9,10,11,12,13,14,15,16,17,18,19,20,21,22,23,24,25] :: [0,1,2,3,4,5,6,7,8,9,10,11,12,13,14,15,16,17,18,19,20,21] :: [0,1,2,3,4,5,6,7,8,9,10,11,12,13,14,15,16,17,18,19,20,21,27] :: [0,1,2,3,4,5,6,7,8,9,10,11,12,13,14,15,16,17,18,19,20,21,27,28] :: [0,1,2,3,4,5,6,7,8,9,10,11,12,13,14,15,16,17,18,19,20,21,27,28,29] :: [0,1,2,3,4,5,6,7,8,9,10,11,12,13,14,15,16,17,18,19,20,21,27,28,29,30] :: [0,1,2,3,4,5,6,7,8,9,10,11,12,13,14,15,16,17,18,19,20,21,22,23,24,25,26,27,28,29,30,31] :: [0,1,2,3,4,5,6,7,8,9,10,11,12,13,14,15,16,17,18,19,20,21,22,23,24,25,26,27,28,29,30,31,32] :: []) yW ?_
 refine nA (CW.condT rfl ?_)
 refine CW.seq (CW.to [] trivial ?_)
 refine CW.region (zU ?_)
 refine rN (CW.ret (rA ?_))
 obtain rfl:=sI h
 exact rT
 have h:=cF hc0 h
 obtain ⟨r2,hr2,h⟩:=bd h
 refine CW.casesB (!r2) (fun hc1 => ?_) (fun hc1 => ?_)
 have h:=cT hc1 h
 refine CW.dk ?_
 refine yB [(0,_)] ?_
 refine zA4 [(9,_)] ?_
 refine sJ [(10,_)] ?_
 refine dC [(11,_)] Tryz.call79 (FnK.go (t_aY.h _) hr1) ?_
 refine dG [(12,_)] [([(13,some (B false))],[(13,0)])] ⟨rfl,trivial⟩ (fun E h => zO.opE (zBf hc0 (zAK h.1 rfl)) rfl) ?_
 refine yB [(13,_)] ?_
 refine zLm [(1,_),(14,_)] ?_
 refine zDe [(15,_),(14,_)] ?_
 refine zFY [(16,_),(14,_)] ?_
 refine zFX [(17,_),(14,_)] ?_
 refine dG [(18,_),(14,_)] [([(19,some (B r2))],[(19,0)])] ⟨rfl,rfl,trivial⟩ (fun E h => zO.guardE 5 false 14 (xD (xs:=[.tmp 18]) Tryz.call80 (FnK.go (t_aQ.h _) hr2) ⟨(agC _ h.1 rfl rfl),trivial⟩ (wQ (f:=B) inferInstance wK) rfl) rfl rfl h.2.1 rfl) ?_
 refine dG [(19,_),(14,_)] [([(20,some (B true))],[(20,0)])] ⟨rfl,rfl,trivial⟩ (fun E h => zO.guardE 5 false 14 (zBf hc1 (zAK h.1 rfl)) rfl rfl h.2.1 rfl) ?_
 refine jV [(14,_),(20,_)] ?_
 refine yB [(21,_)] ?_
 refine vB ?_
 refine vB ?_
 refine vB ?_
 refine vB ?_
 refine vB ?_
 refine vB ?_
 refine jV [(22,_)] ?_
 refine yB [(29,_)] ?_
 refine vB ?_
 refine vB ?_
 refine vB ?_
 refine vB ?_
 refine vB ?_
 refine vB ?_
 refine vB ?_
 refine vB ?_
 refine vB ?_
 refine vB ?_
 refine vB ?_
 refine jV [(30,_)] ?_
 refine dN ([] :: [0] :: [0,1] :: [0,1,2] :: [0,1,2,3] :: [0,1,2,3,4] :: [0,1,2,3,4,5] :: [0,1,2,3,4,5,6] :: [0,1,2,3,4,5,6,7] :: [0,1,2,3,4,5,6,7,8] :: [0,1,2,3,4,5,6,7,8,9] :: [0,1,2,3,4,5,6,7,8,9,10] :: [0,1,2,3,4,5,6,7,8,9,10,11] :: [0,1,2,3,4,5,6,7,8,9,10,11,12] :: [0,1,2,3,4,5,6,7,8,9,10,11,12,13] :: [0,1,2,3,4,5,6,7,8,9,10,11,12,13,14] :: [0,1,2,3,4,5,6,7,8,9,10,11,12,13,14,15] :: [0,1,2,3,4,5,6,7,8,9,10,11,12,13,14,15,16] :: [0,1,2,3,4,5,6,7,8,9,10,11,12,13,14,15,16,17] :: [0,1,2,3,4,5,6,7,8,9,10,11,12,13,14,15,16,17,18] :: [0,1,2,3,4,5,6,7,8,9,10,11,12,13,14,15,16,17,18,19] :: [0,1,2,3,4,5,6,7,8,9,10,11,12,13,14,15,16,17,18,19,20] :: [0,1,2,3,4,5,6,7,8,9,10,11,12,13,14,15,16,17,18,19,20,21] :: [0,1,2,3,4,5,6,7,8,9,10,11,12,13,14,15,16,17,18,19,20,21,22] :: [0,1,2,3,4,5,6,7,8,9,10,11,12,13,14,15,16,17,18,19,20,21,22,23] :: [0,1,2,3,4,5,6,7,8,9,10,11,12,13,14,15,16,17,18,19,20,21,22,23,24] :: [0,1,2,3,4,5,6,7,8,9,10,11,12,13,14,15,16,17,18,19,20,21,22,23,24,25] :: [0,1,2,3,4,5,6,7,8,9,10,11,12,13,14,15,16,17,18,19,20,21] :: [0,1,2,3,4,5,6,7,8,9,10,11,12,13,14,15,16,17,18,19,20,21,27] :: [0,1,2,3,4,5,6,7,8,9,10,11,12,13,14,15,16,17,18,19,20,21,27,28] :: [0,1,2,3,4,5,6,7,8,9,10,11,12,13,14,15,16,17,18,19,20,21,27,28,29] :: [0,1,2,3,4,5,6,7,8,9,10,11,12,13,14,15,16,17,18,19,20,21,27,28,29,30] :: [0,1,2,3,4,5,6,7,8,9,10,11,12,13,14,15,16,17,18,19,20,21,22,23,24,25,26,27,28,29,30,31] :: [0,1,2,3,4,5,6,7,8,9,10,11,12,13,14,15,16,17,18,19,20,21,22,23,24,25,26,27,28,29,30,31,32] :: []) yW ?_
 refine nA (CW.condT rfl ?_)
 refine CW.seq (CW.to [] trivial ?_)
 refine CW.region (zU ?_)
 refine rN (CW.ret (rA ?_))
 obtain rfl:=sI h
 exact rT
 have h:=cF hc1 h
 obtain ⟨r3,hr3,h⟩:=bd h
 refine CW.casesB (!r3) (fun hc2 => ?_) (fun hc2 => ?_)
 have h:=cT hc2 h
 refine CW.dk ?_
 refine yB [(0,_)] ?_
 refine zA4 [(9,_)] ?_
 refine sJ [(10,_)] ?_
 refine dC [(11,_)] Tryz.call79 (FnK.go (t_aY.h _) hr1) ?_
 refine dG [(12,_)] [([(13,some (B false))],[(13,0)])] ⟨rfl,trivial⟩ (fun E h => zO.opE (zBf hc0 (zAK h.1 rfl)) rfl) ?_
 refine yB [(13,_)] ?_
 refine zLm [(1,_),(14,_)] ?_
 refine zDe [(15,_),(14,_)] ?_
 refine zFY [(16,_),(14,_)] ?_
 refine zFX [(17,_),(14,_)] ?_
 refine dG [(18,_),(14,_)] [([(19,some (B r2))],[(19,0)])] ⟨rfl,rfl,trivial⟩ (fun E h => zO.guardE 5 false 14 (xD (xs:=[.tmp 18]) Tryz.call80 (FnK.go (t_aQ.h _) hr2) ⟨(agC _ h.1 rfl rfl),trivial⟩ (wQ (f:=B) inferInstance wK) rfl) rfl rfl h.2.1 rfl) ?_
 refine dG [(19,_),(14,_)] [([(20,some (B false))],[(20,0)])] ⟨rfl,rfl,trivial⟩ (fun E h => zO.guardE 5 false 14 (zBf hc1 (zAK h.1 rfl)) rfl rfl h.2.1 rfl) ?_
 refine jV [(14,_),(20,_)] ?_
 refine yB [(21,_)] ?_
 refine zLm [(1,_),(22,_)] ?_
 refine zDe [(23,_),(22,_)] ?_
 refine zFY [(24,_),(22,_)] ?_
 refine zFX [(25,_),(22,_)] ?_
 refine dG [(26,_),(22,_)] [([(27,some (B r3))],[(27,0)])] ⟨rfl,rfl,trivial⟩ (fun E h => zO.guardE 13 false 22 (xD (xs:=[.tmp 26,.const _,.const _]) Tryz.call81 (FnK.go (t_aP.h _ _ _) hr3) ⟨(agC _ h.1 rfl rfl),⟨(agC _ rfl rfl rfl),⟨(agC _ rfl rfl rfl),trivial⟩⟩⟩ (wQ (f:=B) inferInstance wK) rfl) rfl rfl h.2.1 rfl) ?_
 refine dG [(27,_),(22,_)] [([(28,some (B true))],[(28,0)])] ⟨rfl,rfl,trivial⟩ (fun E h => zO.guardE 13 false 22 (zBf hc2 (zAK h.1 rfl)) rfl rfl h.2.1 rfl) ?_
 refine jV [(22,_),(28,_)] ?_
 refine yB [(29,_)] ?_
 refine vB ?_
 refine vB ?_
 refine vB ?_
 refine vB ?_
 refine vB ?_
 refine vB ?_
 refine vB ?_
 refine vB ?_
 refine vB ?_
 refine vB ?_
 refine vB ?_
 refine jV [(30,_)] ?_
 refine dN ([] :: [0] :: [0,1] :: [0,1,2] :: [0,1,2,3] :: [0,1,2,3,4] :: [0,1,2,3,4,5] :: [0,1,2,3,4,5,6] :: [0,1,2,3,4,5,6,7] :: [0,1,2,3,4,5,6,7,8] :: [0,1,2,3,4,5,6,7,8,9] :: [0,1,2,3,4,5,6,7,8,9,10] :: [0,1,2,3,4,5,6,7,8,9,10,11] :: [0,1,2,3,4,5,6,7,8,9,10,11,12] :: [0,1,2,3,4,5,6,7,8,9,10,11,12,13] :: [0,1,2,3,4,5,6,7,8,9,10,11,12,13,14] :: [0,1,2,3,4,5,6,7,8,9,10,11,12,13,14,15] :: [0,1,2,3,4,5,6,7,8,9,10,11,12,13,14,15,16] :: [0,1,2,3,4,5,6,7,8,9,10,11,12,13,14,15,16,17] :: [0,1,2,3,4,5,6,7,8,9,10,11,12,13,14,15,16,17,18] :: [0,1,2,3,4,5,6,7,8,9,10,11,12,13,14,15,16,17,18,19] :: [0,1,2,3,4,5,6,7,8,9,10,11,12,13,14,15,16,17,18,19,20] :: [0,1,2,3,4,5,6,7,8,9,10,11,12,13,14,15,16,17,18,19,20,21] :: [0,1,2,3,4,5,6,7,8,9,10,11,12,13,14,15,16,17,18,19,20,21,22] :: [0,1,2,3,4,5,6,7,8,9,10,11,12,13,14,15,16,17,18,19,20,21,22,23] :: [0,1,2,3,4,5,6,7,8,9,10,11,12,13,14,15,16,17,18,19,20,21,22,23,24] :: [0,1,2,3,4,5,6,7,8,9,10,11,12,13,14,15,16,17,18,19,20,21,22,23,24,25] :: [0,1,2,3,4,5,6,7,8,9,10,11,12,13,14,15,16,17,18,19,20,21] :: [0,1,2,3,4,5,6,7,8,9,10,11,12,13,14,15,16,17,18,19,20,21,27] :: [0,1,2,3,4,5,6,7,8,9,10,11,12,13,14,15,16,17,18,19,20,21,27,28] :: [0,1,2,3,4,5,6,7,8,9,10,11,12,13,14,15,16,17,18,19,20,21,27,28,29] :: [0,1,2,3,4,5,6,7,8,9,10,11,12,13,14,15,16,17,18,19,20,21,27,28,29,30] :: [0,1,2,3,4,5,6,7,8,9,10,11,12,13,14,15,16,17,18,19,20,21,22,23,24,25,26,27,28,29,30,31] :: [0,1,2,3,4,5,6,7,8,9,10,11,12,13,14,15,16,17,18,19,20,21,22,23,24,25,26,27,28,29,30,31,32] :: []) yW ?_
 refine nA (CW.condT rfl ?_)
 refine CW.seq (CW.to [] trivial ?_)
 refine CW.region (zU ?_)
 refine rN (CW.ret (rA ?_))
 obtain rfl:=sI h
 exact rT
 have h:=cF hc2 h
 refine CW.dk ?_
 refine yB [(0,_)] ?_
 refine zA4 [(9,_)] ?_
 refine sJ [(10,_)] ?_
 refine dC [(11,_)] Tryz.call79 (FnK.go (t_aY.h _) hr1) ?_
 refine dG [(12,_)] [([(13,some (B false))],[(13,0)])] ⟨rfl,trivial⟩ (fun E h => zO.opE (zBf hc0 (zAK h.1 rfl)) rfl) ?_
 refine yB [(13,_)] ?_
 refine zLm [(1,_),(14,_)] ?_
 refine zDe [(15,_),(14,_)] ?_
 refine zFY [(16,_),(14,_)] ?_
 refine zFX [(17,_),(14,_)] ?_
 refine dG [(18,_),(14,_)] [([(19,some (B r2))],[(19,0)])] ⟨rfl,rfl,trivial⟩ (fun E h => zO.guardE 5 false 14 (xD (xs:=[.tmp 18]) Tryz.call80 (FnK.go (t_aQ.h _) hr2) ⟨(agC _ h.1 rfl rfl),trivial⟩ (wQ (f:=B) inferInstance wK) rfl) rfl rfl h.2.1 rfl) ?_
 refine dG [(19,_),(14,_)] [([(20,some (B false))],[(20,0)])] ⟨rfl,rfl,trivial⟩ (fun E h => zO.guardE 5 false 14 (zBf hc1 (zAK h.1 rfl)) rfl rfl h.2.1 rfl) ?_
 refine jV [(14,_),(20,_)] ?_
 refine yB [(21,_)] ?_
 refine zLm [(1,_),(22,_)] ?_
 refine zDe [(23,_),(22,_)] ?_
 refine zFY [(24,_),(22,_)] ?_
 refine zFX [(25,_),(22,_)] ?_
 refine dG [(26,_),(22,_)] [([(27,some (B r3))],[(27,0)])] ⟨rfl,rfl,trivial⟩ (fun E h => zO.guardE 13 false 22 (xD (xs:=[.tmp 26,.const _,.const _]) Tryz.call81 (FnK.go (t_aP.h _ _ _) hr3) ⟨(agC _ h.1 rfl rfl),⟨(agC _ rfl rfl rfl),⟨(agC _ rfl rfl rfl),trivial⟩⟩⟩ (wQ (f:=B) inferInstance wK) rfl) rfl rfl h.2.1 rfl) ?_
 refine dG [(27,_),(22,_)] [([(28,some (B false))],[(28,0)])] ⟨rfl,rfl,trivial⟩ (fun E h => zO.guardE 13 false 22 (zBf hc2 (zAK h.1 rfl)) rfl rfl h.2.1 rfl) ?_
 refine jV [(22,_),(28,_)] ?_
 refine yB [(29,_)] ?_
 refine zLm [(1,_),(30,_)] ?_
 refine zDe [(31,_),(30,_)] ?_
 refine zFY [(32,_),(30,_)] ?_
 refine zFX [(33,_),(30,_)] ?_
 refine zPI [(34,_),(30,_)] ?_
 refine zLm [(0,_),(30,_)] ?_
 refine zDe [(36,_),(30,_)] ?_
 refine zFY [(37,_),(30,_)] ?_
 refine zFX [(38,_),(30,_)] ?_
 refine zPI [(39,_),(30,_)] ?_
 refine zVK [(35,_),(40,_),(30,_)] ?_
 refine jV [(30,_),(41,_)] ?_
 refine dN ([] :: [0] :: [0,1] :: [0,1,2] :: [0,1,2,3] :: [0,1,2,3,4] :: [0,1,2,3,4,5] :: [0,1,2,3,4,5,6] :: [0,1,2,3,4,5,6,7] :: [0,1,2,3,4,5,6,7,8] :: [0,1,2,3,4,5,6,7,8,9] :: [0,1,2,3,4,5,6,7,8,9,10] :: [0,1,2,3,4,5,6,7,8,9,10,11] :: [0,1,2,3,4,5,6,7,8,9,10,11,12] :: [0,1,2,3,4,5,6,7,8,9,10,11,12,13] :: [0,1,2,3,4,5,6,7,8,9,10,11,12,13,14] :: [0,1,2,3,4,5,6,7,8,9,10,11,12,13,14,15] :: [0,1,2,3,4,5,6,7,8,9,10,11,12,13,14,15,16] :: [0,1,2,3,4,5,6,7,8,9,10,11,12,13,14,15,16,17] :: [0,1,2,3,4,5,6,7,8,9,10,11,12,13,14,15,16,17,18] :: [0,1,2,3,4,5,6,7,8,9,10,11,12,13,14,15,16,17,18,19] :: [0,1,2,3,4,5,6,7,8,9,10,11,12,13,14,15,16,17,18,19,20] :: [0,1,2,3,4,5,6,7,8,9,10,11,12,13,14,15,16,17,18,19,20,21] :: [0,1,2,3,4,5,6,7,8,9,10,11,12,13,14,15,16,17,18,19,20,21,22] :: [0,1,2,3,4,5,6,7,8,9,10,11,12,13,14,15,16,17,18,19,20,21,22,23] :: [0,1,2,3,4,5,6,7,8,9,10,11,12,13,14,15,16,17,18,19,20,21,22,23,24] :: [0,1,2,3,4,5,6,7,8,9,10,11,12,13,14,15,16,17,18,19,20,21,22,23,24,25] :: [0,1,2,3,4,5,6,7,8,9,10,11,12,13,14,15,16,17,18,19,20,21] :: [0,1,2,3,4,5,6,7,8,9,10,11,12,13,14,15,16,17,18,19,20,21,27] :: [0,1,2,3,4,5,6,7,8,9,10,11,12,13,14,15,16,17,18,19,20,21,27,28] :: [0,1,2,3,4,5,6,7,8,9,10,11,12,13,14,15,16,17,18,19,20,21,27,28,29] :: [0,1,2,3,4,5,6,7,8,9,10,11,12,13,14,15,16,17,18,19,20,21,27,28,29,30] :: [0,1,2,3,4,5,6,7,8,9,10,11,12,13,14,15,16,17,18,19,20,21,22,23,24,25,26,27,28,29,30,31] :: [0,1,2,3,4,5,6,7,8,9,10,11,12,13,14,15,16,17,18,19,20,21,22,23,24,25,26,27,28,29,30,31,32] :: []) yW ?_
 refine nA (cn h (fun hc h => ?_) (fun hc h => ?_))
 refine CW.seq (CW.to [] trivial ?_)
 refine CW.region (zU ?_)
 refine rN (CW.ret (rA ?_))
 obtain rfl:=sI h
 exact rT
 refine CW.skip (nA (CW.seq (CW.seq (CW.to [(0,T.ro ((Pt xU) x0)),(1,T.ro ((Pt yC) x1))] ⟨rfl,rfl,trivial⟩ ?_))))
 refine CW.region (zM ?_)
 refine zBM ?_
 refine zEM ?_
 refine uD ?_
 refine vE ?_
 refine zM ?_
 refine rN (CW.block ?_)
 obtain ⟨r8,hr8,h⟩:=bd h
 refine CW.lp (s:=0) (zRD x1) (fun s1:Int => yP [(0,T.ro ((Pt xU) x0)),(1,T.ro ((Pt yC) x1)),(46,T.ro (lC x1.zK)),(47,I (x1.zK.length:Int)),(48,I s1)]) (fun (x:Unit ⊕ Bool) e E => match x with | (.inl r8) => e = .exit 0 ∧ zH ⟨St,W,w0,Tryz.f55.ntmps⟩ E (yP [(0,T.ro ((Pt xU) x0)),(1,T.ro ((Pt yC) x1))]) | (.inr r8) => e = .ret ∧ vW ⟨St,W,w0,Tryz.f55.ntmps⟩ Tryz.prog Tryz.f55.results [T.ro ((Pt xU) x0),T.ro ((Pt yC) x1)] [B r8] [] .ret E) (.has ⟨rfl,rfl,rfl,rfl,rfl,trivial⟩) (fun s1 x h => ?_) hr8 (fun e E hq => ?_)
 refine sR (wF ?_)
 refine rN (CW.seq (cn h (fun hc h => ?_) (fun hc h => ?_)))
 refine CW.skip (nA (CW.seq (CW.block (sR (zM ?_)))))
 obtain ⟨v4,hv4,h⟩:=bd h
 refine qJ ?_
 refine uD ?_
 refine zU ?_
 refine zU ?_
 refine rN (sR (zM ?_))
 refine vE ?_
 refine zM ?_
 refine zBM ?_
 refine zEM ?_
 refine uD ?_
 refine zMR ?_
 refine zM ?_
 refine RW.cases 60 _ rfl (fun hc => ?_) (fun hc => ?_)
 have h:=cT hc h
 refine sk2 ?_
 refine sk2 ?_
 refine sk2 ?_
 refine sk2 ?_
 refine sk2 ?_
 refine vX ?_
 refine rN (CW.condT rfl ?_)
 refine sR (zU ?_)
 refine rN (CW.ret (rB ?_))
 exact rA (eX h)
 have h:=cF hc h
 refine zA3 ?_
 refine zA3 ?_
 obtain ⟨r5,hr5,h⟩:=bd h
 refine RW.cons (zO.guard 7 false 60 (uS (xs:=[.tmp 61,.tmp 62]) Tryz.call83 (FnK.go (t_aZ.h _ _) hr5) (afC rfl rfl (afC rfl rfl afN)) rfl ⟨(xE ⟨(Enc.clean (f:=I) _),(Enc.clean (f:=I) _),trivial,trivial⟩),trivial⟩ rfl rfl)) ?_
 obtain ⟨r6,hr6,h⟩:=bd h
 refine RW.cons (zO.guard 7 false 60 (xD (xs:=[.tmp 63]) Tryz.call82 (FnK.go (t_au.h _) hr6) ⟨(agC _ rfl rfl rfl),trivial⟩ (wQ (f:=B) inferInstance wK) rfl)) ?_
 refine zTU ?_
 refine vX ?_
 refine rN (cn h (fun hc h => ?_) (fun hc h => ?_))
 refine sR (zU ?_)
 refine rN (CW.ret (rB ?_))
 exact rA (eX h)
 refine CW.skip (nB (nA (CW.region ?_)))
 obtain ⟨v7,hv7,h⟩:=bd h
 refine xX ?_
 refine zM ?_
 refine RW.nil ?_
 exact eN h
 refine CW.exit (xA ?_)
 exact eX h
 rcases r8 with r8 | r8
 obtain ⟨rfl,hg⟩:=hq
 refine xB ?_
 refine nA (CW.ghost hg ?_)
 refine CW.seq (sR (zM ?_))
 obtain ⟨r9,hr9,h⟩:=bd h
 refine cA Tryz.call84 (FnK.go (t_t.h _) hr9) ?_
 refine RW.ghost (zH.frz 69 (k:=2) (f:=(A2 lV)) (g:=(A2 lV)) r9 rfl inferInstance) ?_
 refine vE ?_
 refine zM ?_
 refine rN (CW.block ?_)
 obtain ⟨r15,hr15,h⟩:=bd h
 refine CW.lp (s:=0) (zRE x1 r9) (fun s3:Int => yP [(1,T.ro ((Pt yC) x1)),(69,T.ro ((L 2 (A2 lV)) r9)),(70,I (r9.length:Int)),(71,I s3)]) (fun (x:Unit ⊕ Bool) e E => match x with | (.inl r15) => e = .exit 2 ∧ zH ⟨St,W,w0,Tryz.f55.ntmps⟩ E (yP []) | (.inr r15) => e = .ret ∧ vW ⟨St,W,w0,Tryz.f55.ntmps⟩ Tryz.prog Tryz.f55.results [T.ro ((Pt xU) x0),T.ro ((Pt yC) x1)] [B r15] [] .ret E) (.has ⟨rfl,rfl,rfl,rfl,trivial⟩) (fun s3 x h => ?_) hr15 (fun e E hq => ?_)
 refine sR (wF ?_)
 refine rN (CW.seq (cn h (fun hc h => ?_) (fun hc h => ?_)))
 refine CW.skip (nA (CW.seq (CW.block (sR ?_))))
 obtain ⟨v10,hv10,h⟩:=bd h
 refine qJ ?_
 refine uD ?_
 refine vK ?_
 refine oP (vJ zIQ rfl (xZ rfl rfl) rfl rfl rfl rfl (zB (xE ⟨trivial,trivial,trivial⟩)) rfl) ?_
 refine rN (CW.seq ?_)
 obtain ⟨r11,hr11,h⟩:=bd h
 obtain ⟨r12,hr12,h⟩:=bd h
 obtain ⟨r13,hr13,h⟩:=bd h
 refine CW.dk ?_
 refine yB [(1,_)] ?_
 refine dG [(8,_)] [([(76,some (T.addr 8 [0,0]))],[(76,0)])] ⟨rfl,trivial⟩ (fun E h => zO.opE (zMM 0 arr_104 (xZ h.1 rfl) rfl rfl rfl) rfl) ?_
 refine uJ [(76,_),(8,_)] ?_
 refine dC [(75,_),(77,_)] Tryz.call86 (FnK.go (t_aa.h _ _) hr11) ?_
 refine dG [(78,_)] [([(79,some (T.same 78 [2]))],[(79,0)])] ⟨rfl,trivial⟩ (fun E h => zO.opE (zP2 fld_78_2 (zEA rfl rfl) h.1 rfl rfl rfl) rfl) ?_
 refine yB [(1,_)] ?_
 refine dG [(8,_)] [([(81,some (T.addr 8 [1,0]))],[(81,0)])] ⟨rfl,trivial⟩ (fun E h => zO.opE (zMM 1 arr_104 (xZ h.1 rfl) rfl rfl rfl) rfl) ?_
 refine uJ [(81,_),(8,_)] ?_
 refine dC [(80,_),(82,_)] Tryz.call86 (FnK.go (t_aa.h _ _) hr12) ?_
 refine dG [(83,_)] [([(84,some (T.same 83 [2]))],[(84,0)])] ⟨rfl,trivial⟩ (fun E h => zO.opE (zP2 fld_78_2 (zEA rfl rfl) h.1 rfl rfl rfl) rfl) ?_
 refine dC [(79,_),(78,_),(84,_),(83,_)] Tryz.call85 (FnK.go (t_bn.h _ _) hr13) ?_
 refine zPJ [(85,_)] ?_
 refine dNA yW ?_
 refine nA (cn h (fun hc h => ?_) (fun hc h => ?_))
 refine sR (zU ?_)
 refine rN (CW.ret (rB ?_))
 exact rA (eX h)
 refine CW.skip (nB (nA (CW.region ?_)))
 obtain ⟨v14,hv14,h⟩:=bd h
 refine xX ?_
 refine zM ?_
 refine RW.nil ?_
 exact eN h
 refine CW.exit (xA ?_)
 exact eX h
 rcases r15 with r15 | r15
 obtain ⟨rfl,hg⟩:=hq
 refine xB ?_
 refine nA (CW.ghost hg ?_)
 refine sR (zU ?_)
 refine rN (CW.ret ?_)
 obtain rfl:=sI h
 exact rT
 obtain ⟨rfl,hq⟩:=hq
 refine rB ?_
 refine rA ?_
 obtain rfl:=sI h
 exact hq
 obtain ⟨rfl,hq⟩:=hq
 refine rB ?_
 refine rA ?_
 obtain rfl:=sI h
 exact hq
instance t_C:FI Tryz.prog 55 (∀ (x0:SPr) (x1:zD),FnK Tryz.prog 55 [T.ro ((Pt xU) x0),T.ro ((Pt yC) x1)] (fun r:Bool => [B r]) (fun _ => []) (f_C x0 x1)):=⟨Tryz.call55,fun x0 x1 => FnK.mk (u_C x0 x1)⟩
section
attribute [local irreducible] RW CW DK OkL Ok xQ xR vL vW XS.post rng uZ uA ixO zT xP wZ yS zI GTo zH FnC FnK uG sG Kp Lk BsL BuL RpL Bk Lc
instance t_bu:FI Tryz.prog 87 (∀ (x0:SPr),FnK Tryz.prog 87 [T.ro ((Pt xU) x0)] (fun r:Int => [I r]) (fun _ => []) (zT0 x0)):=⟨Tryz.call87,fun x0 => iF Tryz.func87⟩
instance (x0:zD) (x1:List (List Int)):LH (R:=Bool) (zN7 x0 x1) [0,7,8] [] (fun s1 => [(9,I s1)]) (.xs (.xe 0 [0,7,8] fun _ => []) .xr):=⟨⟩
instance t_a3:FI Tryz.prog 88 (∀ (x0:zD) (x1:List (List Int)),FnK Tryz.prog 88 [T.ro ((Pt yC) x0),T.ro (lM x1)] (fun r:Bool => [B r]) (fun _ => []) (zV4 x0 x1)):=⟨Tryz.call88,fun x0 x1 => iF Tryz.func88⟩
instance t_by:FI Tryz.prog 56 (∀ (x0:SPr) (x1:zD) (x2:List (List Int)),FnK Tryz.prog 56 [T.ro ((Pt xU) x0),T.ro ((Pt yC) x1),T.ro (lM x2)] (fun r:Bool => [B r]) (fun _ => []) (zT4 x0 x1 x2)):=⟨Tryz.call56,fun x0 x1 x2 => iF Tryz.func56⟩
end
theorem u_z (x0:List Int) (r:SPr) (h:f_z x0 = some r):FnC Tryz.prog 124 [T.ro (lV x0)] [xU r] []:=by
 refine fB Tryz.func124 (fun St W w0 v => ?_)
 refine sR (vK ?_)
 refine rN (sR (zM ?_))
 refine vE ?_
 refine zU ?_
 refine rN (sR (zM ?_))
 obtain ⟨r1,hr1,h⟩:=bd h
 refine cA Tryz.call94 (FnK.go (t_w.h _) hr1) ?_
 refine oP (qY bld_34 [(0,.tmp 11)] [(0,.slot 11 (L 1 I r1))] [.slot 11 (L 1 I r1),.zero (L 1 lV []),.zero (L 1 lM [])] (pkS rfl (zB (zF (Enc.clean (f:=I)))) rfl (pkZ rfl (pkZ rfl pkN))) (bqC (.slot _ _) bqN) rfl) ?_
 refine vK ?_
 refine oP (vJ zE9 rfl (xZ rfl rfl) rfl rfl rfl rfl (zB (xE ⟨(zF (Enc.clean (f:=I))),trivial,trivial,trivial⟩)) rfl) ?_
 refine rN (CW.seq (sR (zM ?_)))
 refine zM ?_
 refine rN (CW.block ?_)
 obtain ⟨r11,hr11,h⟩:=bd h
 refine CW.lp (s:=([],[],0)) (zO3 x0) (fun s5:(List (List Int)) × (List (List (List Int))) × Int => yP [(2,T.ptr (T.agg [L 1 I [],L 1 lV [],L 1 lM []])),(3,I (x0.length:Int)),(4,T.ptr (T.agg [L 1 I r1,L 1 lV s5.1,L 1 lM s5.2.1])),(13,I (x0.length:Int)),(14,I s5.2.2)]) (fun (r11:((List (List Int)) × (List (List (List Int))))) e E => e = .exit 0 ∧ zH ⟨St,W,w0,Tryz.f124.ntmps⟩ E (yP [(2,T.ptr (T.agg [L 1 I [],L 1 lV [],L 1 lM []])),(4,T.ptr (T.agg [L 1 I r1,L 1 lV r11.1,L 1 lM r11.2]))])) (.has ⟨rfl,rfl,rfl,rfl,rfl,trivial⟩) (fun s5 x h => ?_) hr11 (fun e E hq => ?_)
 refine sR (wF ?_)
 refine rN (CW.seq (cn h (fun hc h => ?_) (fun hc h => ?_)))
 refine CW.skip (nA (CW.seq (CW.block (sR (zM ?_)))))
 refine zU ?_
 refine rN (CW.seq ?_)
 obtain ⟨m2,hm2,h⟩:=bd h
 obtain ⟨v3,hv3,h⟩:=bd h
 refine CW.dk ?_
 refine sQ [(4,_)] ?_
 refine uJ [(17,_),(4,_)] ?_
 refine yB [(3,_)] ?_
 refine dG [(19,_)] [([(20,some (L 1 I (List.replicate m2 (0:Int))))],[(20,0)])] ⟨rfl,trivial⟩ (fun E h => zO.opE (qX (f:=I) (z:=0) elt_22 (rfl) hm2 h.1 h.1 rfl) rfl) ?_
 refine dG [(20,_)] [([(21,some (L 1 lV [List.replicate m2 (0:Int)])),(20,some (T.same 21 [0]))],[(21,0),(20,1)])] ⟨rfl,trivial⟩ (fun E h => zO.opE (jK elt_23 [.tmp 20] [.slot 20 (L 1 I (List.replicate m2 (0:Int)))] [List.replicate m2 (0:Int)] lV ⟨.slot _ _,trivial⟩ (pkS h.1 (zB (zF (Enc.clean (f:=I)))) rfl pkN) rfl rfl) rfl) ?_
 refine dG [(18,T.same 4 [1,0]),(4,T.ptr (T.agg [L 1 I r1,L 1 lV s5.1,L 1 lM s5.2.1])),(21,L 1 lV [List.replicate m2 (0:Int)])] [([(18,some (L 1 lV s5.1)),(4,some (T.ptr (T.agg [L 1 I r1,T.any,L 1 lM s5.2.1])))],[(18,1),(4,3)]),([(22,some (L 1 lV v3)),(18,some T.any),(21,some T.any)],[(22,0),(18,1),(21,1)])] ⟨rfl,rfl,rfl,trivial⟩ (fun E h => zO.gh (zH.trq 18 4 [1,0] h.1 h.2.1 rfl (zB (zF (Enc.clean (f:=lV)))) rfl) <| zO.opE (sP (f:=lV) elt_23 hv3 rfl (qI h.2.2.1) rfl) rfl) ?_
 refine sQ [(4,_)] ?_
 refine dG [(23,_),(4,_),(22,_)] [([(4,some (T.ptr (T.agg [L 1 I r1,L 1 lV v3,L 1 lM s5.2.1]))),(22,some (T.same 4 [1,0]))],[(4,2),(22,1)])] ⟨rfl,rfl,rfl,trivial⟩ (fun E h => zO.opE (zC4 zIP rfl h.1 h.2.1 rfl rfl h.2.2.1 (zB (zF (Enc.clean (f:=lV)))) rfl) rfl) ?_
 refine dNA yW ?_
 refine nA (sR (oP (tK 1 rfl) ?_))
 refine rN (CW.seq (sR (zM ?_)))
 obtain ⟨v4,hv4,h⟩:=bd h
 refine xX ?_
 refine zU ?_
 refine rN (CW.block ?_)
 obtain ⟨r8,hr8,h⟩:=bd h
 refine CW.lp (s:=([],v4)) (zO2 x0) (fun s6:(List (List Int)) × Int => yP [(2,T.ptr (T.agg [L 1 I [],L 1 lV [],L 1 lM []])),(3,I (x0.length:Int)),(4,T.ptr (T.agg [L 1 I r1,L 1 lV v3,L 1 lM s5.2.1])),(6,L 1 lV s6.1),(7,I s6.2),(13,I (x0.length:Int)),(14,I s5.2.2)]) (fun (r8:(List (List Int))) e E => e = .exit 2 ∧ zH ⟨St,W,w0,Tryz.f124.ntmps⟩ E (yP [(2,T.ptr (T.agg [L 1 I [],L 1 lV [],L 1 lM []])),(3,I (x0.length:Int)),(4,T.ptr (T.agg [L 1 I r1,L 1 lV v3,L 1 lM s5.2.1])),(6,L 1 lV r8),(13,I (x0.length:Int)),(14,I s5.2.2)])) (.has ⟨rfl,rfl,rfl,rfl,rfl,rfl,rfl,trivial⟩) (fun s6 x h => ?_) hr8 (fun e E hq => ?_)
 refine CW.seq (sR (zM ?_))
 refine zM ?_
 refine wF ?_
 refine rN (cn h (fun hc h => ?_) (fun hc h => ?_))
 refine CW.skip (nA (CW.seq (CW.block (CW.region (zM ?_)))))
 refine zM ?_
 refine zM ?_
 obtain ⟨r5,hr5,h⟩:=bd h
 refine cA Tryz.call93 (FnK.go (t_aG.h _ _) hr5) ?_
 refine oP (jK elt_23 [.tmp 34] [.slot 34 (L 1 I r5)] [r5] lV ⟨.slot _ _,trivial⟩ (pkS rfl (zB (zF (Enc.clean (f:=I)))) rfl pkN) rfl rfl) ?_
 refine RW.ghost (zH.tr 31 6 _ rfl rfl (zB (zF (Enc.clean (f:=lV)))) rfl) ?_
 obtain ⟨v6,hv6,h⟩:=bd h
 refine oP (sP (f:=lV) elt_23 hv6 rfl rfl rfl) ?_
 refine zU ?_
 refine RW.ghost (zH.tr 6 36 _ rfl rfl (zB (zF (Enc.clean (f:=lV)))) rfl) ?_
 refine RW.nil ?_
 refine nB (nA (CW.region (zM ?_)))
 obtain ⟨v7,hv7,h⟩:=bd h
 refine xX ?_
 refine zU ?_
 refine RW.nil ?_
 exact eN h
 refine CW.exit (xA ?_)
 exact eX h
 obtain ⟨rfl,hg⟩:=hq
 refine xB ?_
 refine nA (CW.ghost hg ?_)
 refine CW.region (sF ?_)
 refine tX ?_
 refine zM ?_
 refine RW.ghost (zH.tr 39 6 _ rfl rfl (zB (zF (Enc.clean (f:=lV)))) rfl) ?_
 refine oP (jK elt_24 [.tmp 39] [.slot 39 (L 1 lV r8)] [r8] lM ⟨.slot _ _,trivial⟩ (pkS rfl (zB (zF (Enc.clean (f:=lV)))) rfl pkN) rfl rfl) ?_
 refine RW.ghost (zH.trq 38 4 [2,0] rfl rfl rfl (zB (zF (Enc.clean (f:=lM)))) rfl) ?_
 obtain ⟨v9,hv9,h⟩:=bd h
 refine oP (sP (f:=lM) elt_24 hv9 rfl rfl rfl) ?_
 refine sF ?_
 refine oP (zC4 zSo rfl rfl rfl rfl rfl rfl (zB (zF (Enc.clean (f:=lM)))) rfl) ?_
 refine RW.nil ?_
 refine nB (nA (CW.region ?_))
 obtain ⟨v10,hv10,h⟩:=bd h
 refine xX ?_
 refine zM ?_
 refine RW.nil ?_
 exact eN h
 refine CW.exit (xA ?_)
 exact eX h
 obtain ⟨rfl,hg⟩:=hq
 refine xB ?_
 refine nA (CW.ghost hg ?_)
 refine sR (uM ?_)
 refine RW.ghost (zH.trf 44 [0] 4 [0,0] _ _ rfl rfl rfl rfl rfl (zB (zF (Enc.clean (f:=I)))) rfl) ?_
 refine RW.ghost (zH.trf 44 [1] 4 [1,0] _ _ rfl rfl rfl rfl rfl (zB (zF (Enc.clean (f:=lV)))) rfl) ?_
 refine RW.ghost (zH.trf 44 [2] 4 [2,0] _ _ rfl rfl rfl rfl rfl (zB (zF (Enc.clean (f:=lM)))) rfl) ?_
 refine oP (vJ zE9 rfl (xZ rfl rfl) rfl rfl rfl rfl (zB (xE ⟨(zF (Enc.clean (f:=I))),(zF (Enc.clean (f:=lV))),(zF (Enc.clean (f:=lM))),trivial⟩)) rfl) ?_
 refine rN (CW.ret ?_)
 obtain rfl:=sI h
 exact ⟨_,zH.refl,⟨.inl rfl,[(2,[0],T.agg [L 1 I r1,L 1 lV r11.1,L 1 lM r11.2])],⟨⟨rfl,rfl,rfl,(var_34.h _ rfl rfl).h⟩,trivial⟩,rfl,(by simp),(by simp),trivial⟩⟩
instance t_z:FI Tryz.prog 124 (∀ (x0:List Int),FnK Tryz.prog 124 [T.ro (lV x0)] (fun r:SPr => [xU r]) (fun _ => []) (f_z x0)):=⟨Tryz.call124,fun x0 => FnK.mk (u_z x0)⟩
theorem zXO (x1:Int) (r:(List Int)) (h:zRF x1 = some r):FnC Tryz.prog 62 [T.lit (.slice none 0 0),I x1] [lV r] []:=by
 refine fB Tryz.func62 (fun St W w0 v => ?_)
 refine sR (oP (tK 1 rfl) ?_)
 refine rN (CW.seq (sR (zM ?_)))
 refine wF ?_
 refine rN (cn h (fun hc h => ?_) (fun hc h => ?_))
 ·refine CW.region ?_
  cases h
 ·refine CW.skip (nA (CW.seq (sR (zM ?_))))
  refine zM ?_
  refine oP (zJ5 Tryz.underlying22 rfl rfl) ?_
  refine zM ?_
  refine oP (zJ4 Tryz.underlying22 rfl rfl) ?_
  obtain ⟨v1,hv1,h⟩:=bd h
  refine zMQ ?_
  obtain ⟨v2,hv2,h⟩:=bd h
  refine zMQ ?_
  refine zU ?_
  refine rN (sR (zM ?_))
  refine zTV ?_
  refine rN (cn h (fun hc h => ?_) (fun hc h => ?_))
  ·refine CW.region (zM ?_)
   refine zM ?_
   refine oP (zJ5 Tryz.underlying22 rfl rfl) ?_
   refine oP (zS9 elt_22 rfl rfl rfl) ?_
   refine zM ?_
   obtain ⟨v3,hv3,h⟩:=bd h
   refine oP (zLi (f:=I) (z:=0) elt_22 Tryz.underlying3 (rfl) hv3 rfl rfl rfl) ?_
   refine zM ?_
   refine oP (zJ4 Tryz.underlying22 rfl rfl) ?_
   obtain ⟨v4,hv4,h⟩:=bd h
   refine oP (zTQ (f:=I) elt_22 hv4 rfl rfl (.inl rfl) rfl) ?_
   refine zU ?_
   refine RW.ghost (zH.tr 0 25 _ rfl rfl (zB (zF (Enc.clean (f:=I)))) rfl) ?_
   refine rN (sR (zM ?_))
   refine zU ?_
   refine RW.ghost (zH.tr 4 0 _ rfl rfl (zB (zF (Enc.clean (f:=I)))) rfl) ?_
   refine rN (CW.ret ?_)
   obtain rfl:=sI h
   exact rT
  ·refine CW.skip (nA (sR (zM ?_)))
   refine zU ?_
   refine rN (CW.ghost (zH.nil 4 1 rfl) ?_)
   refine CW.ret ?_
   obtain rfl:=sI h
   exact rT
instance t_ba:FI Tryz.prog 62 (∀ (x1:Int),FnK Tryz.prog 62 [T.lit (.slice none 0 0),I x1] (fun r:(List Int) => [lV r]) (fun _ => []) (zRF x1)):=⟨Tryz.call62,fun x1 => FnK.mk (zXO x1)⟩
section
attribute [local irreducible] RW CW DK OkL Ok xQ xR vL vW XS.post rng uZ uA ixO zT xP wZ yS zI GTo zH FnC FnK uG sG Kp Lk BsL BuL RpL Bk Lc
instance (x0:List (List Int)):LH (R:=(List Int)) (zRG x0) [0,9,10] [] (fun s1 => [(3,I s1.1),(11,I s1.2)]) (.xe 0 [9,10] fun r4 => [(3,I r4)]):=⟨⟩
instance (x0:List (List Int)):LH (R:=(List Int)) (zRH x0) [25,26] [] (fun s3 => [(6,L 1 I s3.1),(27,I s3.2)]) (.xe 2 [25,26] fun r9 => [(6,L 1 I r9)]):=⟨⟩
instance t_u:FI Tryz.prog 37 (∀ (x0:List (List Int)),FnK Tryz.prog 37 [T.ro (lM x0)] (fun r:(List Int) => [lV r]) (fun _ => []) (f_u x0)):=⟨Tryz.call37,fun x0 => iF Tryz.func37⟩
end
theorem zXP (x0:List Int) (x1:Int) (x2:Int) (r:(List Int)) (h:zRI x0 x1 x2 = some r):FnC Tryz.prog 125 [T.ro (lV x0),I x1,I x2] [lV r] []:=by
 refine fB Tryz.func125 (fun St W w0 v => ?_)
 refine sR (oP (tK 1 rfl) ?_)
 refine rN (CW.seq ?_)
 obtain ⟨m1,hm1,h⟩:=bd h
 obtain ⟨m2,hm2,h⟩:=bd h
 obtain ⟨r3,hr3,h⟩:=bd h
 refine CW.dk ?_
 refine yB [(1,_)] ?_
 refine dG [(7,_)] [([(8,some (L 1 I (List.replicate m1 (0:Int))))],[(8,0)])] ⟨rfl,trivial⟩ (fun E h => zO.opE (qX (f:=I) (z:=0) elt_22 (rfl) hm1 h.1 h.1 rfl) rfl) ?_
 refine yB [(0,_)] ?_
 refine yB [(2,_)] ?_
 refine dG [(10,_)] [([(11,some (L 1 I (List.replicate m2 (0:Int))))],[(11,0)])] ⟨rfl,trivial⟩ (fun E h => zO.opE (qX (f:=I) (z:=0) elt_22 (rfl) hm2 h.1 h.1 rfl) rfl) ?_
 refine dG [(8,L 1 I (List.replicate m1 (0:Int))),(11,L 1 I (List.replicate m2 (0:Int))),(9,T.ro (lV x0))] [([(8,some (T.ro (lV (List.replicate m1 (0:Int)))))],[(8,1)]),([(11,some (T.ro (lV (List.replicate m2 (0:Int)))))],[(11,1)]),([(12,some (L 1 (Ro lV) [List.replicate m1 (0:Int),x0,List.replicate m2 (0:Int)]))],[(12,0)])] ⟨rfl,rfl,rfl,trivial⟩ (fun E h => zO.gh (zH.frz 8 (k:=1) (f:=I) (g:=I) (List.replicate m1 (0:Int)) h.1 inferInstance) <| zO.gh (zH.frz 11 (k:=1) (f:=I) (g:=I) (List.replicate m2 (0:Int)) (qI h.2.1) inferInstance) <| zO.opE (jK elt_23 [.tmp 8,.tmp 9,.tmp 11] [.slot 8 (T.ro (lV (List.replicate m1 (0:Int)))),.slot 9 (T.ro (lV x0)),.slot 11 (T.ro (lV (List.replicate m2 (0:Int))))] [List.replicate m1 (0:Int),x0,List.replicate m2 (0:Int)] (Ro lV) ⟨.slot _ _,.slot _ _,.slot _ _,trivial⟩ (pkS (qI rfl) (zB trivial) rfl (pkS (qI (qI h.2.2.1)) (zB trivial) rfl (pkS rfl (zB trivial) rfl pkN))) rfl rfl) rfl) ?_
 refine dC [(12,_)] Tryz.call37 (FnK.go (t_u.h _) hr3) ?_
 refine kZ [(13,_)] ?_
 refine dNA yW ?_
 refine nA (CW.ghost (zH.tr 6 13 _ rfl rfl (zB (zF (Enc.clean (f:=I)))) rfl) ?_)
 refine CW.ret ?_
 obtain rfl:=sI h
 exact rT
instance t_a1:FI Tryz.prog 125 (∀ (x0:List Int) (x1:Int) (x2:Int),FnK Tryz.prog 125 [T.ro (lV x0),I x1,I x2] (fun r:(List Int) => [lV r]) (fun _ => []) (zRI x0 x1 x2)):=⟨Tryz.call125,fun x0 x1 x2 => FnK.mk (zXP x0 x1 x2)⟩
theorem u_j (x0:SPr) (x1:zD) (x2:List (List Int)) (r:SPr) (h:f_j x0 x1 x2 = some r):FnC Tryz.prog 89 [T.ro ((Pt xU) x0),T.ro ((Pt yC) x1),T.ro (lM x2)] [xU r] []:=by
 refine fB Tryz.func89 (fun St W w0 v => ?_)
 refine sR (vK ?_)
 refine rN (CW.seq (CW.dk ?_))
 refine yB [(0,_)] ?_
 refine zA4 [(18,_)] ?_
 refine zH6 [(19,_)] ?_
 refine sJ [(20,_)] ?_
 refine zLn [(21,_)] ?_
 refine yB [(1,_)] ?_
 refine zA4 [(23,_)] ?_
 refine zH6 [(24,_)] ?_
 refine sJ [(25,_)] ?_
 refine kZ [(22,_)] ?_
 refine kZ [(26,_)] ?_
 refine dNA yW ?_
 refine nA (CW.seq ?_)
 obtain ⟨r1,hr1,h⟩:=bd h
 obtain ⟨r2,hr2,h⟩:=bd h
 obtain ⟨v3,hv3,h⟩:=bd h
 obtain ⟨r4,hr4,h⟩:=bd h
 refine CW.dk ?_
 refine yB [(0,_)] ?_
 refine zA4 [(27,_)] ?_
 refine zH6 [(28,_)] ?_
 refine sJ [(29,_)] ?_
 refine dC [(30,_)] Tryz.call94 (FnK.go (t_w.h _) hr1) ?_
 refine yB [(1,_)] ?_
 refine zA4 [(32,_)] ?_
 refine zH6 [(33,_)] ?_
 refine sJ [(34,_)] ?_
 refine dG [(35,_)] [([(36,some (L 1 I [x1.Prime]))],[(36,0)])] ⟨rfl,trivial⟩ (fun E h => zO.opE (jK elt_22 [.tmp 35] [.slot 35 (I x1.Prime)] [x1.Prime] I ⟨.slot _ _,trivial⟩ (pkS h.1 (zB (Enc.clean (f:=I) _)) rfl pkN) rfl rfl) rfl) ?_
 refine yB [(8,_)] ?_
 refine dC [(36,_),(37,_)] Tryz.call118 (FnK.go (t_i.h _ _) hr2) ?_
 refine dG [(31,_),(38,_)] [([(39,some (L 1 I v3)),(31,some T.any)],[(39,0),(31,1)])] ⟨rfl,rfl,trivial⟩ (fun E h => zO.opE (zA1 (f:=I) elt_22 (fun _ => rfl) hv3 h.1 (xZ h.2.1 rfl) rfl) rfl) ?_
 refine dC [(39,_)] Tryz.call124 (FnK.go (t_z.h _) hr4) ?_
 refine zCr [] ?_
 refine dG [(9,_),(40,_)] [([(9,some (T.ptr (xU r4))),(40,some (T.agg [T.same 9 [0,0],T.same 9 [1,0],T.same 9 [2,0]]))],[(9,1),(40,1)])] ⟨rfl,rfl,trivial⟩ (fun E h => zO.opE (vJ zE9 rfl (xZ h.1 rfl) h.1 rfl rfl h.2.1 (zB (xE ⟨(zF (Enc.clean (f:=I))),(zF (Enc.clean (f:=lV))),(zF (Enc.clean (f:=lM))),trivial⟩)) rfl) rfl) ?_
 refine dNA yW ?_
 refine nA (CW.seq (CW.to [(0,T.ro ((Pt xU) x0)),(1,T.ro ((Pt yC) x1)),(2,T.ro (lM x2)),(6,T.ptr (T.agg [L 1 I [],L 1 lV [],L 1 lM []])),(7,I (x0.zA.length:Int)),(9,T.ptr (xU r4))] ⟨rfl,rfl,rfl,rfl,rfl,rfl,trivial⟩ ?_))
 refine CW.region (zU ?_)
 refine rN (CW.seq (sR (zM ?_)))
 refine zBM ?_
 refine zEM ?_
 refine uD ?_
 refine vE ?_
 refine zM ?_
 refine rN (CW.block ?_)
 obtain ⟨r11,hr11,h⟩:=bd h
 refine CW.lp (s:=(r4.zW,0,0)) (zO4 x0 x2) (fun s1:(List (List Int)) × Int × Int => yP [(0,T.ro ((Pt xU) x0)),(1,T.ro ((Pt yC) x1)),(2,T.ro (lM x2)),(6,T.ptr (T.agg [L 1 I [],L 1 lV [],L 1 lM []])),(7,I (x0.zA.length:Int)),(9,T.ptr (T.agg [L 1 I r4.zA,L 1 lV s1.1,L 1 lM r4.zC])),(10,I s1.2.1),(44,T.ro (lM x0.zW)),(45,I (x0.zW.length:Int)),(46,I s1.2.2)]) (fun (r11:((List (List Int)) × Int)) e E => e = .exit 0 ∧ zH ⟨St,W,w0,Tryz.f89.ntmps⟩ E (yP [(0,T.ro ((Pt xU) x0)),(1,T.ro ((Pt yC) x1)),(2,T.ro (lM x2)),(6,T.ptr (T.agg [L 1 I [],L 1 lV [],L 1 lM []])),(7,I (x0.zA.length:Int)),(9,T.ptr (T.agg [L 1 I r4.zA,L 1 lV r11.1,L 1 lM r4.zC])),(10,I r11.2)])) (.has ⟨rfl,rfl,rfl,rfl,rfl,rfl,rfl,rfl,rfl,rfl,trivial⟩) (fun s1 x h => ?_) hr11 (fun e E hq => ?_)
 refine sR (wF ?_)
 refine rN (CW.seq (cn h (fun hc h => ?_) (fun hc h => ?_)))
 refine CW.skip (nA (CW.seq (CW.block (sR (zM ?_)))))
 obtain ⟨v5,hv5,h⟩:=bd h
 refine qJ ?_
 refine uD ?_
 refine zU ?_
 refine zU ?_
 refine rN (CW.seq ?_)
 obtain ⟨v6,hv6,h⟩:=bd h
 obtain ⟨r7,hr7,h⟩:=bd h
 obtain ⟨v8,hv8,h⟩:=bd h
 refine CW.dk ?_
 refine sQ [(9,_)] ?_
 refine uJ [(51,_),(9,_)] ?_
 refine yB [(11,_)] ?_
 refine yB [(12,_)] ?_
 refine yB [(2,_)] ?_
 refine yB [(10,_)] ?_
 refine zBN [(55,_),(56,_)] ?_
 refine sJ [(57,_)] ?_
 refine dG [(54,_),(58,_)] [([(59,some (L 1 (Ro lV) [v5,v6]))],[(59,0)])] ⟨rfl,rfl,trivial⟩ (fun E h => zO.opE (jK elt_23 [.tmp 54,.tmp 58] [.slot 54 (T.ro (lV v5)),.slot 58 (T.ro (lV v6))] [v5,v6] (Ro lV) ⟨.slot _ _,.slot _ _,trivial⟩ (pkS h.1 (zB trivial) rfl (pkS h.2.1 (zB trivial) rfl pkN)) rfl rfl) rfl) ?_
 refine dC [(59,_)] Tryz.call37 (FnK.go (t_u.h _) hr7) ?_
 refine zEn [(52,_),(9,_),(53,_)] ?_
 refine dG [(61,_),(9,_),(60,_)] [([(9,some (T.ptr (T.agg [L 1 I r4.zA,L 1 lV (s1.1.set s1.2.2.toNat r7),L 1 lM r4.zC]))),(60,some (T.same 9 [s1.2.2.toNat,1,0]))],[(9,3),(60,1)])] ⟨rfl,rfl,rfl,trivial⟩ (fun E h => zO.opE (zC4 zCf rfl h.1 h.2.1 (yX (yY rfl (zN hv8 rfl))) (zAL (zIu rfl (kG hv8 rfl))) h.2.2.1 (zB (zF (Enc.clean (f:=I)))) rfl) rfl) ?_
 refine dNA yW ?_
 refine nA (CW.region (zM ?_))
 obtain ⟨v9,hv9,h⟩:=bd h
 refine oP (zAI hv9 rfl rfl rfl) ?_
 refine zU ?_
 refine RW.nil ?_
 refine nB (nA (CW.region ?_))
 obtain ⟨v10,hv10,h⟩:=bd h
 refine oP (zAI hv10 rfl rfl rfl) ?_
 refine zM ?_
 refine RW.nil ?_
 exact eN h
 refine CW.exit (xA ?_)
 exact eX h
 obtain ⟨rfl,hg⟩:=hq
 refine xB ?_
 refine nA (CW.ghost hg ?_)
 refine CW.seq (sR (zM ?_))
 refine zM ?_
 refine rN (CW.block ?_)
 obtain ⟨r32,hr32,h⟩:=bd h
 refine CW.lp (s:=(r4.zC,r11.2,0)) (zO7 x0 x1 x2) (fun s11:(List (List (List Int))) × Int × Int => yP [(0,T.ro ((Pt xU) x0)),(1,T.ro ((Pt yC) x1)),(2,T.ro (lM x2)),(6,T.ptr (T.agg [L 1 I [],L 1 lV [],L 1 lM []])),(7,I (x0.zA.length:Int)),(9,T.ptr (T.agg [L 1 I r4.zA,L 1 lV r11.1,L 1 lM s11.1])),(10,I s11.2.1),(65,I (x0.zA.length:Int)),(66,I s11.2.2)]) (fun (r32:(List (List (List Int)))) e E => e = .exit 2 ∧ zH ⟨St,W,w0,Tryz.f89.ntmps⟩ E (yP [(6,T.ptr (T.agg [L 1 I [],L 1 lV [],L 1 lM []])),(9,T.ptr (T.agg [L 1 I r4.zA,L 1 lV r11.1,L 1 lM r32]))])) (.has ⟨rfl,rfl,rfl,rfl,rfl,rfl,rfl,rfl,rfl,trivial⟩) (fun s11 x h => ?_) hr32 (fun e E hq => ?_)
 refine sR (wF ?_)
 refine rN (CW.seq (cn h (fun hc h => ?_) (fun hc h => ?_)))
 refine CW.skip (nA (CW.seq (CW.block (sR (zM ?_)))))
 refine zU ?_
 refine rN (CW.seq (sR (zM ?_)))
 refine zBM ?_
 refine zEM ?_
 refine uD ?_
 refine zM ?_
 obtain ⟨v12,hv12,h⟩:=bd h
 refine qJ ?_
 refine uD ?_
 refine vE ?_
 refine zM ?_
 refine rN (CW.block ?_)
 obtain ⟨r20,hr20,h⟩:=bd h
 refine CW.lp (s:=(s11.1,s11.2.1,0)) (zO5 x2 s11 v12) (fun s12:(List (List (List Int))) × Int × Int => yP [(0,T.ro ((Pt xU) x0)),(1,T.ro ((Pt yC) x1)),(2,T.ro (lM x2)),(6,T.ptr (T.agg [L 1 I [],L 1 lV [],L 1 lM []])),(7,I (x0.zA.length:Int)),(9,T.ptr (T.agg [L 1 I r4.zA,L 1 lV r11.1,L 1 lM s12.1])),(10,I s12.2.1),(13,I s11.2.2),(65,I (x0.zA.length:Int)),(66,I s11.2.2),(75,T.ro (lM v12)),(76,I (v12.length:Int)),(77,I s12.2.2)]) (fun (r20:((List (List (List Int))) × Int)) e E => e = .exit 4 ∧ zH ⟨St,W,w0,Tryz.f89.ntmps⟩ E (yP [(0,T.ro ((Pt xU) x0)),(1,T.ro ((Pt yC) x1)),(2,T.ro (lM x2)),(6,T.ptr (T.agg [L 1 I [],L 1 lV [],L 1 lM []])),(7,I (x0.zA.length:Int)),(9,T.ptr (T.agg [L 1 I r4.zA,L 1 lV r11.1,L 1 lM r20.1])),(10,I r20.2),(13,I s11.2.2),(65,I (x0.zA.length:Int)),(66,I s11.2.2)])) (.has ⟨rfl,rfl,rfl,rfl,rfl,rfl,rfl,rfl,rfl,rfl,rfl,rfl,rfl,trivial⟩) (fun s12 x h => ?_) hr20 (fun e E hq => ?_)
 refine sR (wF ?_)
 refine rN (CW.seq (cn h (fun hc h => ?_) (fun hc h => ?_)))
 refine CW.skip (nA (CW.seq (CW.block (sR (zM ?_)))))
 obtain ⟨v13,hv13,h⟩:=bd h
 refine qJ ?_
 refine uD ?_
 refine zU ?_
 refine zU ?_
 refine rN (CW.seq ?_)
 obtain ⟨v14,hv14,h⟩:=bd h
 obtain ⟨v15,hv15,h⟩:=bd h
 obtain ⟨r16,hr16,h⟩:=bd h
 obtain ⟨v17,hv17,h⟩:=bd h
 refine CW.dk ?_
 refine sQ [(9,_)] ?_
 refine uJ [(82,_),(9,_)] ?_
 refine yB [(13,_)] ?_
 refine zEn [(83,_),(9,_),(84,_)] ?_
 refine uJ [(85,_),(9,_)] ?_
 refine yB [(14,_)] ?_
 refine yB [(15,_)] ?_
 refine yB [(2,_)] ?_
 refine yB [(10,_)] ?_
 refine zBN [(89,_),(90,_)] ?_
 refine sJ [(91,_)] ?_
 refine dG [(88,_),(92,_)] [([(93,some (L 1 (Ro lV) [v13,v15]))],[(93,0)])] ⟨rfl,rfl,trivial⟩ (fun E h => zO.opE (jK elt_23 [.tmp 88,.tmp 92] [.slot 88 (T.ro (lV v13)),.slot 92 (T.ro (lV v15))] [v13,v15] (Ro lV) ⟨.slot _ _,.slot _ _,trivial⟩ (pkS h.1 (zB trivial) rfl (pkS h.2.1 (zB trivial) rfl pkN)) rfl rfl) rfl) ?_
 refine dC [(93,_)] Tryz.call37 (FnK.go (t_u.h _) hr16) ?_
 refine zEn [(86,_),(9,_),(87,_)] ?_
 refine dG [(95,_),(9,_),(94,_)] [([(9,some (T.ptr (T.agg [L 1 I r4.zA,L 1 lV r11.1,L 1 lM (s12.1.set s11.2.2.toNat (v14.set s12.2.2.toNat r16))]))),(94,some (T.same 9 [s12.2.2.toNat,s11.2.2.toNat,2,0]))],[(9,4),(94,1)])] ⟨rfl,rfl,rfl,trivial⟩ (fun E h => zO.opE (zC4 zCf rfl h.1 h.2.1 (yX (yY rfl (zN hv14 (zN hv17 rfl)))) (zAL (zIu rfl (kG hv14 (kG hv17 rfl)))) h.2.2.1 (zB (zF (Enc.clean (f:=I)))) rfl) rfl) ?_
 refine dNA yW ?_
 refine nA (CW.region (zM ?_))
 obtain ⟨v18,hv18,h⟩:=bd h
 refine xX ?_
 refine zU ?_
 refine RW.nil ?_
 refine nB (nA (CW.to [(0,T.ro ((Pt xU) x0)),(1,T.ro ((Pt yC) x1)),(2,T.ro (lM x2)),(6,T.ptr (T.agg [L 1 I [],L 1 lV [],L 1 lM []])),(7,I (x0.zA.length:Int)),(9,T.ptr (T.agg [L 1 I r4.zA,L 1 lV r11.1,L 1 lM (s12.1.set s11.2.2.toNat (v14.set s12.2.2.toNat r16))])),(10,I v18),(13,I s11.2.2),(65,I (x0.zA.length:Int)),(66,I s11.2.2),(75,T.ro (lM v12)),(76,I (v12.length:Int)),(77,I s12.2.2)] ⟨rfl,rfl,rfl,rfl,rfl,rfl,rfl,rfl,rfl,rfl,rfl,rfl,rfl,trivial⟩ ?_))
 refine CW.region ?_
 obtain ⟨v19,hv19,h⟩:=bd h
 refine xX ?_
 refine zM ?_
 refine RW.nil ?_
 exact eN h
 refine CW.exit (xA ?_)
 exact eX h
 obtain ⟨rfl,hg⟩:=hq
 refine xB ?_
 refine nA (CW.ghost hg ?_)
 refine sR (zM ?_)
 refine zBM ?_
 refine zEM ?_
 refine uD ?_
 refine zM ?_
 obtain ⟨v21,hv21,h⟩:=bd h
 refine qJ ?_
 refine uD ?_
 refine vE ?_
 refine zM ?_
 refine rN (CW.block ?_)
 obtain ⟨r30,hr30,h⟩:=bd h
 refine CW.lp (s:=(r20.1,0)) (zO6 x0 s11 v21) (fun s14:(List (List (List Int))) × Int => yP [(0,T.ro ((Pt xU) x0)),(1,T.ro ((Pt yC) x1)),(2,T.ro (lM x2)),(6,T.ptr (T.agg [L 1 I [],L 1 lV [],L 1 lM []])),(7,I (x0.zA.length:Int)),(9,T.ptr (T.agg [L 1 I r4.zA,L 1 lV r11.1,L 1 lM s14.1])),(10,I r20.2),(13,I s11.2.2),(65,I (x0.zA.length:Int)),(66,I s11.2.2),(105,T.ro (lM v21)),(106,I (v21.length:Int)),(107,I s14.2)]) (fun (r30:(List (List (List Int)))) e E => e = .exit 6 ∧ zH ⟨St,W,w0,Tryz.f89.ntmps⟩ E (yP [(0,T.ro ((Pt xU) x0)),(1,T.ro ((Pt yC) x1)),(2,T.ro (lM x2)),(6,T.ptr (T.agg [L 1 I [],L 1 lV [],L 1 lM []])),(7,I (x0.zA.length:Int)),(9,T.ptr (T.agg [L 1 I r4.zA,L 1 lV r11.1,L 1 lM r30])),(10,I r20.2),(65,I (x0.zA.length:Int)),(66,I s11.2.2)])) (.has ⟨rfl,rfl,rfl,rfl,rfl,rfl,rfl,rfl,rfl,rfl,rfl,rfl,rfl,trivial⟩) (fun s14 x h => ?_) hr30 (fun e E hq => ?_)
 refine sR (wF ?_)
 refine rN (CW.seq (cn h (fun hc h => ?_) (fun hc h => ?_)))
 refine CW.skip (nA (CW.seq (CW.block (sR (zM ?_)))))
 obtain ⟨v22,hv22,h⟩:=bd h
 refine qJ ?_
 refine uD ?_
 refine zU ?_
 refine zU ?_
 refine rN ?_
 obtain ⟨v23,hv23,h⟩:=bd h
 obtain ⟨v24,hv24,h⟩:=bd h
 obtain ⟨v25,hv25,h⟩:=bd h
 obtain ⟨v26,hv26,h⟩:=bd h
 obtain ⟨r27,hr27,h⟩:=bd h
 obtain ⟨v28,hv28,h⟩:=bd h
 refine CW.dk ?_
 refine sQ [(9,_)] ?_
 refine uJ [(112,_),(9,_)] ?_
 refine yB [(13,_)] ?_
 refine zEn [(113,_),(9,_),(114,_)] ?_
 refine uJ [(115,_),(9,_)] ?_
 refine yB [(7,_)] ?_
 refine zEN [(117,_)] ?_
 refine yB [(13,_)] ?_
 refine zEN [(118,_),(119,_)] ?_
 refine yB [(16,_)] ?_
 refine zJC [(120,_),(121,_)] ?_
 refine yB [(17,_)] ?_
 refine yB [(7,_)] ?_
 refine dC [(123,_),(124,_)] Tryz.call125 (FnK.go (t_a1.h _ _ _) hr27) ?_
 refine zEn [(116,_),(9,_),(122,_)] ?_
 refine dG [(126,_),(9,_),(125,_)] [([(9,some (T.ptr (T.agg [L 1 I r4.zA,L 1 lV r11.1,L 1 lM (s14.1.set s11.2.2.toNat (v23.set v26.toNat r27))]))),(125,some (T.same 9 [v26.toNat,s11.2.2.toNat,2,0]))],[(9,4),(125,1)])] ⟨rfl,rfl,rfl,trivial⟩ (fun E h => zO.opE (zC4 zCf rfl h.1 h.2.1 (yX (yY rfl (zN hv23 (zN hv28 rfl)))) (zAL (zIu rfl (kG hv23 (kG hv28 rfl)))) h.2.2.1 (zB (zF (Enc.clean (f:=I)))) rfl) rfl) ?_
 refine dNA yW ?_
 refine nB (nA (CW.region ?_))
 obtain ⟨v29,hv29,h⟩:=bd h
 refine xX ?_
 refine zM ?_
 refine RW.nil ?_
 exact eN h
 refine CW.exit (xA ?_)
 exact eX h
 obtain ⟨rfl,hg⟩:=hq
 refine xB ?_
 refine nB (nA (CW.ghost hg ?_))
 refine CW.region ?_
 obtain ⟨v31,hv31,h⟩:=bd h
 refine xX ?_
 refine zM ?_
 refine RW.nil ?_
 exact eN h
 refine CW.exit (xA ?_)
 exact eX h
 obtain ⟨rfl,hg⟩:=hq
 refine xB ?_
 refine nA (CW.ghost hg ?_)
 refine sR (uM ?_)
 refine RW.ghost (zH.trf 129 [0] 9 [0,0] _ _ rfl rfl rfl rfl rfl (zB (zF (Enc.clean (f:=I)))) rfl) ?_
 refine RW.ghost (zH.trf 129 [1] 9 [1,0] _ _ rfl rfl rfl rfl rfl (zB (zF (Enc.clean (f:=lV)))) rfl) ?_
 refine RW.ghost (zH.trf 129 [2] 9 [2,0] _ _ rfl rfl rfl rfl rfl (zB (zF (Enc.clean (f:=lM)))) rfl) ?_
 refine oP (vJ zE9 rfl (xZ rfl rfl) rfl rfl rfl rfl (zB (xE ⟨(zF (Enc.clean (f:=I))),(zF (Enc.clean (f:=lV))),(zF (Enc.clean (f:=lM))),trivial⟩)) rfl) ?_
 refine rN (CW.ret ?_)
 obtain rfl:=sI h
 exact ⟨_,zH.refl,⟨.inl rfl,[(6,[0],T.agg [L 1 I r4.zA,L 1 lV r11.1,L 1 lM r32])],⟨⟨rfl,rfl,rfl,(var_34.h _ rfl rfl).h⟩,trivial⟩,rfl,(by simp),(by simp),trivial⟩⟩
instance t_j:FI Tryz.prog 89 (∀ (x0:SPr) (x1:zD) (x2:List (List Int)),FnK Tryz.prog 89 [T.ro ((Pt xU) x0),T.ro ((Pt yC) x1),T.ro (lM x2)] (fun r:SPr => [xU r]) (fun _ => []) (f_j x0 x1 x2)):=⟨Tryz.call89,fun x0 x1 x2 => FnK.mk (u_j x0 x1 x2)⟩
end Go.Wk

namespace Go.Wk
open Go Go.Proofs Go.Ab
set_option maxRecDepth 100000
set_option maxHeartbeats 1000000
section
attribute [local irreducible] RW CW DK OkL Ok xQ xR vL vW XS.post rng uZ uA ixO zT xP wZ yS zI GTo zH FnC FnK uG sG Kp Lk BsL BuL RpL Bk Lc
instance t_bz:FI Tryz.prog 57 (∀ (x0:SPr) (x1:zD) (x2:List (List Int)),FnK Tryz.prog 57 [T.ro ((Pt xU) x0),T.ro ((Pt yC) x1),T.ro (lM x2)] (fun r:Bool => [B r]) (fun _ => []) (zT5 x0 x1 x2)):=⟨Tryz.call57,fun x0 x1 x2 => iF Tryz.func57⟩
instance (x0:SPr) (x1:zD) (x2:List (List (List Int))):LH (R:=Int) (zSk x0 x1 x2) [0,1,2,15,16] [] (fun s1 => [(17,I s1)]) (.xs (.xe 0 [15,16] fun _ => []) .xr):=⟨⟩
instance (x0:SPr) (x1:zD) (x2:List (List (List Int))):LH (R:=Int) (zSl x0 x1 x2) [0,1,27,28] [] (fun s3 => [(29,I s3)]) (.xs (.xe 2 [0,1,27,28] fun _ => []) .xr):=⟨⟩
instance t_M:FI Tryz.prog 35 (∀ (x0:SPr) (x1:zD) (x2:List (List (List Int))),FnK Tryz.prog 35 [T.ro ((Pt xU) x0),T.ro ((Pt yC) x1),T.ro (lC x2)] (fun r:Int => [I r]) (fun _ => []) (f_M x0 x1 x2)):=⟨Tryz.call35,fun x0 x1 x2 => iF Tryz.func35⟩
instance (x0:List Int) (x1:Int):LH (R:=(List (List Int))) (zO1 x0 x1) [0,1] [] (fun s1 => [(5,L 1 lV s1.1),(6,I s1.2)]) (.xe 0 [0,1] fun r6 => [(5,L 1 lV r6)]):=⟨⟩
instance t_T:FI Tryz.prog 60 (∀ (x0:List Int) (x1:Int),FnK Tryz.prog 60 [T.ro (lV x0),I x1] (fun r:(List (List Int)) => [lM r]) (fun _ => []) (f_T x0 x1)):=⟨Tryz.call60,fun x0 x1 => iF Tryz.func60⟩
instance (x0:zD) (x1:List (List Int)) (x2:List Int):LH (R:=(List Int)) (zKI x0 x1 x2) [0,1,15,16] [] (fun s1 => [(7,L 1 I s1.1),(17,I s1.2)]) (.xe 0 [0,1,15,16] fun r10 => [(7,L 1 I r10)]):=⟨⟩
instance t_ab:FI Tryz.prog 129 (∀ (x0:zD) (x1:List (List Int)) (x2:List Int),FnK Tryz.prog 129 [T.ro ((Pt yC) x0),T.ro (lM x1),T.ro (lV x2)] (fun r:(List Int) => [lV r]) (fun _ => []) (zRZ x0 x1 x2)):=⟨Tryz.call129,fun x0 x1 x2 => iF Tryz.func129⟩
end
theorem zXQ (x0:SPr) (x1:zD) (x2:List (List Int)) (r:(List (List Int))) (h:zSa x0 x1 x2 = some r):FnC Tryz.prog 92 [T.ro ((Pt xU) x0),T.ro ((Pt yC) x1),T.ro (lM x2)] [lM r] []:=by
 refine fB Tryz.func92 (fun St W w0 v => ?_)
 refine sR (oP (tK 1 rfl) ?_)
 refine rN (sR (oP (tK 1 rfl) ?_))
 refine rN (CW.seq (sR (zM ?_)))
 obtain ⟨r1,hr1,h⟩:=bd h
 refine cA Tryz.call84 (FnK.go (t_t.h _) hr1) ?_
 refine RW.ghost (zH.frz 12 (k:=2) (f:=(A2 lV)) (g:=(A2 lV)) r1 rfl inferInstance) ?_
 refine vE ?_
 refine zM ?_
 refine rN (CW.block ?_)
 obtain ⟨r8,hr8,h⟩:=bd h
 refine CW.lp (s:=([],0)) (zKJ x1 x2 r1) (fun s1:(List (List Int)) × Int => yP [(1,T.ro ((Pt yC) x1)),(2,T.ro (lM x2)),(7,L 1 lV s1.1),(12,T.ro ((L 2 (A2 lV)) r1)),(13,I (r1.length:Int)),(14,I s1.2)]) (fun (r8:(List (List Int))) e E => e = .exit 0 ∧ zH ⟨St,W,w0,Tryz.f92.ntmps⟩ E (yP [(7,L 1 lV r8)])) (.has ⟨rfl,rfl,rfl,rfl,rfl,rfl,trivial⟩) (fun s1 x h => ?_) hr8 (fun e E hq => ?_)
 refine sR (wF ?_)
 refine rN (CW.seq (cn h (fun hc h => ?_) (fun hc h => ?_)))
 refine CW.skip (nA (CW.seq (CW.block (sR ?_))))
 obtain ⟨v2,hv2,h⟩:=bd h
 refine qJ ?_
 refine uD ?_
 refine vK ?_
 refine oP (vJ zIQ rfl (xZ rfl rfl) rfl rfl rfl rfl (zB (xE ⟨trivial,trivial,trivial⟩)) rfl) ?_
 refine rN (sR (zM ?_))
 refine zM ?_
 refine oP (zMM 0 arr_104 (xZ rfl rfl) rfl rfl rfl) ?_
 refine tX ?_
 obtain ⟨r3,hr3,h⟩:=bd h
 refine cA Tryz.call129 (FnK.go (t_ab.h _ _ _) hr3) ?_
 refine zU ?_
 refine RW.ghost (zH.tr 10 22 _ rfl rfl (zB (zF (Enc.clean (f:=I)))) rfl) ?_
 refine rN (CW.seq ?_)
 obtain ⟨r4,hr4,h⟩:=bd h
 obtain ⟨r5,hr5,h⟩:=bd h
 refine CW.dk ?_
 refine yB [(10,_)] ?_
 refine yB [(1,_)] ?_
 refine yB [(2,_)] ?_
 refine dG [(9,_)] [([(26,some (T.addr 9 [1,0]))],[(26,0)])] ⟨rfl,trivial⟩ (fun E h => zO.opE (zMM 1 arr_104 (xZ h.1 rfl) rfl rfl rfl) rfl) ?_
 refine uJ [(26,_),(9,_)] ?_
 refine dC [(24,_),(25,_),(27,_)] Tryz.call129 (FnK.go (t_ab.h _ _ _) hr4) ?_
 refine yB [(1,_)] ?_
 refine zA4 [(29,_)] ?_
 refine zH6 [(30,_)] ?_
 refine sJ [(31,_)] ?_
 refine dG [(23,_),(10,_),(28,_),(32,_)] [([(23,some (L 1 I r3)),(10,some (T.same 23 []))],[(23,1),(10,1)]),([(33,some (T.tup [])),(23,some (L 1 I r5))],[(33,0),(23,1)]),([(10,some (L 1 I r5)),(23,some (T.same 10 []))],[(10,1),(23,1)])] ⟨rfl,rfl,rfl,rfl,trivial⟩ (fun E h => zO.opE (tW (xs:=[.tmp 23,.tmp 28,.const _,.tmp 32]) 0 23 10 [] Tryz.call44 (t_s.h _ _ _ _ _ hr5) h.1 h.2.1 rfl (zB (zF (Enc.clean (f:=I)))) (zB (zF (Enc.clean (f:=I)))) (Enc.rofree (f:=L 1 I) _) (Enc.rofree (f:=L 1 I) _) ⟨(zBJ rfl (zB (zF (Enc.clean (f:=I)))) (Enc.rofree (f:=L 1 I) _)),⟨(agM _ (zCH h.2.2.1) (sE inferInstance) rfl),⟨(agM _ rfl rfl rfl),⟨(agM _ (zCH h.2.2.2.1) rfl rfl),trivial⟩⟩⟩⟩ wK rfl rfl rfl rfl) rfl) ?_
 refine dNA yW ?_
 refine nA (CW.region (zM ?_))
 refine zM ?_
 refine RW.ghost (zH.tr 35 10 _ rfl rfl (zB (zF (Enc.clean (f:=I)))) rfl) ?_
 refine oP (jK elt_23 [.tmp 35] [.slot 35 (L 1 I r5)] [r5] lV ⟨.slot _ _,trivial⟩ (pkS rfl (zB (zF (Enc.clean (f:=I)))) rfl pkN) rfl rfl) ?_
 refine RW.ghost (zH.tr 34 7 _ rfl rfl (zB (zF (Enc.clean (f:=lV)))) rfl) ?_
 obtain ⟨v6,hv6,h⟩:=bd h
 refine oP (sP (f:=lV) elt_23 hv6 rfl rfl rfl) ?_
 refine zU ?_
 refine RW.ghost (zH.tr 7 37 _ rfl rfl (zB (zF (Enc.clean (f:=lV)))) rfl) ?_
 refine RW.nil ?_
 refine nB (nA (CW.to [(1,T.ro ((Pt yC) x1)),(2,T.ro (lM x2)),(7,L 1 lV v6),(12,T.ro ((L 2 (A2 lV)) r1)),(13,I (r1.length:Int)),(14,I s1.2)] ⟨rfl,rfl,rfl,rfl,rfl,rfl,trivial⟩ ?_))
 refine CW.region ?_
 obtain ⟨v7,hv7,h⟩:=bd h
 refine xX ?_
 refine zM ?_
 refine RW.nil ?_
 exact eN h
 refine CW.exit (xA ?_)
 exact eX h
 obtain ⟨rfl,hg⟩:=hq
 refine xB ?_
 refine nA (CW.ghost hg ?_)
 refine sR (zM ?_)
 refine zU ?_
 refine RW.ghost (zH.tr 6 7 _ rfl rfl (zB (zF (Enc.clean (f:=lV)))) rfl) ?_
 refine rN (CW.ret ?_)
 obtain rfl:=sI h
 exact rT
instance t_ac:FI Tryz.prog 92 (∀ (x0:SPr) (x1:zD) (x2:List (List Int)),FnK Tryz.prog 92 [T.ro ((Pt xU) x0),T.ro ((Pt yC) x1),T.ro (lM x2)] (fun r:(List (List Int)) => [lM r]) (fun _ => []) (zSa x0 x1 x2)):=⟨Tryz.call92,fun x0 x1 x2 => FnK.mk (zXQ x0 x1 x2)⟩
section
attribute [local irreducible] RW CW DK OkL Ok xQ xR vL vW XS.post rng uZ uA ixO zT xP wZ yS zI GTo zH FnC FnK uG sG Kp Lk BsL BuL RpL Bk Lc
instance (x0:SPr) (x1:zD) (v1:Int):LH (R:=(List (List Int))) (zKR x0 x1 v1) [0,1,5,18] [] (fun s1 => [(6,L 1 lV s1.1),(19,I s1.2)]) (.xe 0 [0,1,5,18] fun r8 => [(6,L 1 lV r8)]):=⟨⟩
instance t_ay:FI Tryz.prog 59 (∀ (x0:SPr) (x1:zD),FnK Tryz.prog 59 [T.ro ((Pt xU) x0),T.ro ((Pt yC) x1)] (fun r:(List (List Int)) => [lM r]) (fun _ => []) (zTA x0 x1)):=⟨Tryz.call59,fun x0 x1 => iF Tryz.func59⟩
instance (x0:List (List Int)):LH (R:=(List (List Int))) (zKC x0) [6,7] [] (fun s1 => [(3,L 1 lV s1.1),(8,I s1.2)]) (.xe 0 [6,7] fun r5 => [(3,L 1 lV r5)]):=⟨⟩
instance t_av:FI Tryz.prog 127 (∀ (x0:List (List Int)),FnK Tryz.prog 127 [T.ro (lM x0)] (fun r:(List (List Int)) => [lM r]) (fun _ => []) (zTw x0)):=⟨Tryz.call127,fun x0 => iF Tryz.func127⟩
instance  : LH (R:=Int × Bool) zOx [1] [] (fun s1 => [(6,I s1.1),(7,I s1.2.1),(8,I s1.2.2.1),(9,I s1.2.2.2)]) (.xe 0 [] fun r6 => [(6,I r6.1),(8,I r6.2)]):=⟨⟩
instance t_P:FI Tryz.prog 128 (∀ (x0:Int) (x1:Int),FnK Tryz.prog 128 [I x0,I x1] (fun r:Int × Bool => [I r.1,B r.2]) (fun _ => []) (f_P x0 x1)):=⟨Tryz.call128,fun x0 x1 => iF Tryz.func128⟩
end
theorem u_g (x0:Int) (x1:List (List Int)) (r:(List (List Int))) (h:f_g x0 x1 = some r):FnC Tryz.prog 91 [I x0,T.ro (lM x1)] [lM r] []:=by
 refine fB Tryz.func91 (fun St W w0 v => ?_)
 refine sR (oP (tK 1 rfl) ?_)
 refine rN (sR (zM ?_))
 obtain ⟨r1,hr1,h⟩:=bd h
 refine cA Tryz.call127 (FnK.go (t_av.h _) hr1) ?_
 refine zU ?_
 refine RW.ghost (zH.tr 1 13 _ rfl rfl (zB (zF (Enc.clean (f:=lV)))) rfl) ?_
 refine rN (sR (zU ?_))
 refine rN (CW.seq (sR (zU ?_)))
 refine rN (CW.block ?_)
 obtain ⟨r33,hr33,h⟩:=bd h
 refine CW.lp (s:=(r1,0,0)) (zMi x0) (fun s13:(List (List Int)) × Int × Int => yP [(0,I x0),(1,L 1 lV s13.1),(5,I s13.2.1),(6,I s13.2.2)]) (fun (r33:((List (List Int)) × Int)) e E => e = .exit 0 ∧ zH ⟨St,W,w0,Tryz.f91.ntmps⟩ E (yP [(1,L 1 lV r33.1),(5,I r33.2)])) (.has ⟨rfl,rfl,rfl,rfl,trivial⟩) (fun s13 x h => ?_) hr33 (fun e E hq => ?_)
 refine CW.seq (sR (zM ?_))
 refine zFW ?_
 refine zTV ?_
 refine zM ?_
 refine RW.cases 17 _ rfl (fun hc => ?_) (fun hc => ?_)
 have h:=cT hc h
 refine zA3 ?_
 refine zA3 ?_
 obtain ⟨v2,hv2,h⟩:=bd h
 refine zUE ?_
 refine zUD ?_
 refine zTX ?_
 refine zTT ?_
 refine vX ?_
 refine zM ?_
 refine RW.cases 25 _ rfl (fun hc => ?_) (fun hc => ?_)
 have h:=cT hc h
 refine zA3 ?_
 refine zA3 ?_
 refine zTX ?_
 refine zTT ?_
 refine vX ?_
 refine rN (cn h (fun hc h => ?_) (fun hc h => ?_))
 refine CW.skip (nA (CW.seq (CW.block (sR (zM ?_)))))
 refine zU ?_
 refine rN (CW.seq (CW.block ?_))
 obtain ⟨r6,hr6,h⟩:=bd h
 refine CW.lp (s:=s13.2.1) (zHg s13) (fun s14:Int => yP [(0,I x0),(1,L 1 lV s13.1),(5,I s13.2.1),(6,I s13.2.2),(7,I s14)]) (fun (r6:Int) e E => e = .exit 2 ∧ zH ⟨St,W,w0,Tryz.f91.ntmps⟩ E (yP [(0,I x0),(1,L 1 lV s13.1),(5,I s13.2.1),(6,I s13.2.2),(7,I r6)])) (.has ⟨rfl,rfl,rfl,rfl,rfl,trivial⟩) (fun s14 x h => ?_) hr6 (fun e E hq => ?_)
 refine CW.seq (sR (zM ?_))
 refine zM ?_
 refine zFW ?_
 refine wF ?_
 refine zM ?_
 refine RW.cases 38 _ rfl (fun hc => ?_) (fun hc => ?_)
 have h:=cT hc h
 refine zA3 ?_
 refine zA3 ?_
 obtain ⟨v3,hv3,h⟩:=bd h
 refine zUE ?_
 refine zUD ?_
 refine zA3 ?_
 obtain ⟨v4,hv4,h⟩:=bd h
 refine zUE ?_
 refine zUD ?_
 refine zVI ?_
 refine vX ?_
 refine rN (cn h (fun hc h => ?_) (fun hc h => ?_))
 refine CW.skip (nA (CW.block (CW.region (zM ?_))))
 obtain ⟨v5,hv5,h⟩:=bd h
 refine xX ?_
 refine zU ?_
 refine RW.nil ?_
 exact nB (eN h)
 refine CW.exit (xA ?_)
 exact eX h
 have h:=cF hc h
 refine sk2 ?_
 refine sk2 ?_
 refine sk2 ?_
 refine sk2 ?_
 refine sk2 ?_
 refine sk2 ?_
 refine sk2 ?_
 refine sk2 ?_
 refine vX ?_
 refine rN (CW.condF rfl ?_)
 refine CW.exit (xA ?_)
 exact eX h
 obtain ⟨rfl,hg⟩:=hq
 refine xB ?_
 refine nA (CW.ghost hg ?_)
 refine CW.seq (sR (zM ?_))
 refine zM ?_
 refine zFW ?_
 refine zPG ?_
 refine rN (cn h (fun hc h => ?_) (fun hc h => ?_))
 refine CW.exit (xA ?_)
 refine xB ?_
 refine nA (CW.region (zM ?_))
 obtain ⟨v7,hv7,h⟩:=bd h
 refine xX ?_
 refine zU ?_
 refine RW.nil ?_
 exact eN h
 refine CW.skip (nA (CW.seq ?_))
 obtain ⟨v8,hv8,h⟩:=bd h
 obtain ⟨v9,hv9,h⟩:=bd h
 refine CW.midA [(0,I x0),(1,L 1 lV (qK s13.1 s13.2.1 r6 v8 v9)),(5,I s13.2.1),(6,I s13.2.2)] ?_ ?_
 refine CW.casesB (r6 == s13.2.1) (fun hc => ?_) (fun hc => ?_)
 have hij:(r6:Int) = s13.2.1:=by simpa using hc
 refine CW.dkS [1] ?_
 refine zEO 1 ?_
 refine yB [(5,_)] ?_
 refine zEO 1 ?_
 refine yB [(7,_)] ?_
 refine zEO 1 ?_
 refine yB [(7,_)] ?_
 refine zEn [(58,_),(1,_),(59,_)] ?_
 refine uJ [(60,_),(1,_)] ?_
 refine zEO 1 ?_
 refine yB [(5,_)] ?_
 refine zEn [(62,_),(1,_),(63,_)] ?_
 refine uJ [(64,_),(1,_)] ?_
 refine zEn [(54,_),(1,_),(55,_)] ?_
 refine zXr (V:=65) zCf rfl hv8 hij ?_
 refine dG [(56,_),(1,_),(57,_)] [([(67,some (T.addr 1 [(r6:Int).toNat]))],[(67,0)])] ⟨rfl,rfl,rfl,trivial⟩ (fun E h => zO.opE (zTY (vQ h.1 h.2.1 rfl rfl) h.2.2.1 (zTZ hv8 (by simp)) rfl) rfl) ?_
 refine zXs (U:=61) zCf rfl hv8 hv9 hij ?_
 refine dNA yW ?_
 exact ⟨rfl,.has ⟨rfl,rfl,rfl,rfl,trivial⟩⟩
 have hn:=zPN hv8 hv9 hc
 refine CW.dkS [1] ?_
 refine zEO 1 ?_
 refine yB [(5,_)] ?_
 refine zEO 1 ?_
 refine yB [(7,_)] ?_
 refine zEO 1 ?_
 refine yB [(7,_)] ?_
 refine zEn [(58,_),(1,_),(59,_)] ?_
 refine uJ [(60,_),(1,_)] ?_
 refine zEO 1 ?_
 refine yB [(5,_)] ?_
 refine zEn [(62,_),(1,_),(63,_)] ?_
 refine uJ [(64,_),(1,_)] ?_
 refine zEn [(54,_),(1,_),(55,_)] ?_
 refine zXp (V:=65) zCf rfl hv8 hv9 hn ?_
 refine dG [(56,_),(1,_),(57,_)] [([(67,some (T.addr 1 [(r6:Int).toNat]))],[(67,0)])] ⟨rfl,rfl,rfl,trivial⟩ (fun E h => zO.opE (zTY (vQ h.1 h.2.1 rfl rfl) h.2.2.1 (zTZ hv8 (by simp)) rfl) rfl) ?_
 refine zXq zCf rfl hv8 hv9 hn ?_
 refine dNA yW ?_
 exact ⟨rfl,.has ⟨rfl,rfl,rfl,rfl,trivial⟩⟩
 refine sR (zM ?_)
 refine zM ?_
 obtain ⟨v10,hv10,h⟩:=bd h
 refine oP (zAJ (f:=lV) row_23 hv10 (vQ rfl rfl rfl rfl) rfl rfl) ?_
 refine oP (zBd (var_22.h _ rfl rfl) rfl rfl (zN hv10 rfl) rfl) ?_
 refine zM ?_
 obtain ⟨v11,hv11,h⟩:=bd h
 refine oP (zAJ (f:=I) row_22 hv11 (vQ rfl rfl (zN hv10 rfl) rfl) rfl rfl) ?_
 refine oP (zBd (var_2.h _ rfl rfl) rfl rfl (zN hv10 (zN hv11 rfl)) rfl) ?_
 refine zM ?_
 obtain ⟨r12,hr12,h⟩:=bd h
 refine cA Tryz.call128 (FnK.go (t_P.h _ _) hr12) ?_
 refine zPH ?_
 refine zH5 ?_
 refine zH5 ?_
 refine zU ?_
 refine zU ?_
 refine rN (CW.seq (sR (zM ?_)))
 refine zM ?_
 obtain ⟨v13,hv13,h⟩:=bd h
 refine oP (zAJ (f:=lV) row_23 hv13 (vQ rfl rfl rfl rfl) rfl rfl) ?_
 refine oP (zBd (var_22.h _ rfl rfl) rfl rfl (zN hv13 rfl) rfl) ?_
 refine oP (zPt Tryz.underlying22 (vQ rfl rfl (zN hv13 rfl) rfl) rfl) ?_
 refine zM ?_
 refine rN (CW.block ?_)
 obtain ⟨r21,hr21,h⟩:=bd h
 refine CW.lp (s:=(qK s13.1 s13.2.1 r6 v8 v9,0)) (zKD x0 s13 r12 v13) (fun s16:(List (List Int)) × Int => yP [(0,I x0),(1,L 1 lV s16.1),(5,I s13.2.1),(6,I s13.2.2),(8,I r12.1),(84,I (v13.length:Int)),(85,I s16.2)]) (fun (r21:(List (List Int))) e E => e = .exit 4 ∧ zH ⟨St,W,w0,Tryz.f91.ntmps⟩ E (yP [(0,I x0),(1,L 1 lV r21),(5,I s13.2.1),(6,I s13.2.2)])) (.has ⟨rfl,rfl,rfl,rfl,rfl,rfl,rfl,trivial⟩) (fun s16 x h => ?_) hr21 (fun e E hq => ?_)
 refine sR (wF ?_)
 refine rN (CW.seq (cn h (fun hc h => ?_) (fun hc h => ?_)))
 refine CW.skip (nA (CW.seq (CW.block (sR (zM ?_)))))
 refine zU ?_
 refine rN ?_
 obtain ⟨v14,hv14,h⟩:=bd h
 obtain ⟨v15,hv15,h⟩:=bd h
 obtain ⟨v16,hv16,h⟩:=bd h
 obtain ⟨v17,hv17,h⟩:=bd h
 obtain ⟨v18,hv18,h⟩:=bd h
 obtain ⟨v19,hv19,h⟩:=bd h
 refine CW.dk ?_
 refine yB [(1,_)] ?_
 refine yB [(5,_)] ?_
 refine dG [(88,_),(1,_),(89,_)] [([(90,some (T.addr 1 [s13.2.1.toNat]))],[(90,0)])] ⟨rfl,rfl,rfl,trivial⟩ (fun E h => zO.opE (zAJ (f:=lV) row_23 hv14 (vQ h.1 h.2.1 rfl rfl) h.2.2.1 rfl) rfl) ?_
 refine dG [(90,_),(1,_)] [([(91,some (T.same 1 [s13.2.1.toNat]))],[(91,0)])] ⟨rfl,rfl,trivial⟩ (fun E h => zO.opE (zBd (var_22.h _ rfl rfl) h.1 h.2.1 (zN hv14 rfl) rfl) rfl) ?_
 refine yB [(10,_)] ?_
 refine yB [(1,_)] ?_
 refine yB [(5,_)] ?_
 refine dG [(93,_),(1,_),(94,_)] [([(95,some (T.addr 1 [s13.2.1.toNat]))],[(95,0)])] ⟨rfl,rfl,rfl,trivial⟩ (fun E h => zO.opE (zAJ (f:=lV) row_23 hv15 (vQ h.1 h.2.1 rfl rfl) h.2.2.1 rfl) rfl) ?_
 refine dG [(95,_),(1,_)] [([(96,some (T.same 1 [s13.2.1.toNat]))],[(96,0)])] ⟨rfl,rfl,trivial⟩ (fun E h => zO.opE (zBd (var_22.h _ rfl rfl) h.1 h.2.1 (zN hv15 rfl) rfl) rfl) ?_
 refine yB [(10,_)] ?_
 refine dG [(96,_),(1,_),(97,_)] [([(98,some (T.addr 1 [s16.2.toNat,s13.2.1.toNat]))],[(98,0)])] ⟨rfl,rfl,rfl,trivial⟩ (fun E h => zO.opE (zAJ (f:=I) row_22 hv16 (vQ h.1 h.2.1 (zN hv15 rfl) rfl) h.2.2.1 rfl) rfl) ?_
 refine dG [(98,_),(1,_)] [([(99,some (I v16))],[(99,0)])] ⟨rfl,rfl,trivial⟩ (fun E h => zO.opE (zBd (var_2.h _ rfl rfl) h.1 h.2.1 (zN hv15 (zN hv16 rfl)) rfl) rfl) ?_
 refine yB [(8,_)] ?_
 refine zVM [(99,_),(100,_)] ?_
 refine yB [(0,_)] ?_
 refine zVN [(101,_),(102,_)] ?_
 refine dG [(91,_),(1,_),(92,_)] [([(104,some (T.addr 1 [s16.2.toNat,s13.2.1.toNat]))],[(104,0)])] ⟨rfl,rfl,rfl,trivial⟩ (fun E h => zO.opE (zAJ (f:=I) row_22 hv19 (vQ h.1 h.2.1 (zN hv14 rfl) rfl) h.2.2.1 rfl) rfl) ?_
 refine dG [(104,_),(1,_),(103,_)] [([(1,some (L 1 lV (s16.1.set s13.2.1.toNat (v14.set s16.2.toNat v18))))],[(1,2)])] ⟨rfl,rfl,rfl,trivial⟩ (fun E h => zO.opE (zC4 zCO rfl h.1 h.2.1 (zN hv14 (zN hv19 rfl)) (kG hv14 (kG hv19 rfl)) h.2.2.1 (zB (Enc.clean (f:=I) _)) rfl) rfl) ?_
 refine dNA yW ?_
 refine nB (nA (CW.region ?_))
 obtain ⟨v20,hv20,h⟩:=bd h
 refine xX ?_
 refine zM ?_
 refine RW.nil ?_
 exact eN h
 refine CW.exit (xA ?_)
 exact eX h
 obtain ⟨rfl,hg⟩:=hq
 refine xB ?_
 refine nA (CW.ghost hg ?_)
 refine CW.seq (sR (zM ?_))
 refine zFW ?_
 refine zM ?_
 refine rN (CW.block ?_)
 obtain ⟨r30,hr30,h⟩:=bd h
 refine CW.lp (s:=(r21,0)) (zMh x0 s13 r21) (fun s18:(List (List Int)) × Int => yP [(0,I x0),(1,L 1 lV s18.1),(5,I s13.2.1),(6,I s13.2.2),(107,I (r21.length:Int)),(108,I s18.2)]) (fun (r30:(List (List Int))) e E => e = .exit 6 ∧ zH ⟨St,W,w0,Tryz.f91.ntmps⟩ E (yP [(0,I x0),(1,L 1 lV r30),(5,I s13.2.1),(6,I s13.2.2)])) (.has ⟨rfl,rfl,rfl,rfl,rfl,rfl,trivial⟩) (fun s18 x h => ?_) hr30 (fun e E hq => ?_)
 refine sR (wF ?_)
 refine rN (CW.seq (cn h (fun hc h => ?_) (fun hc h => ?_)))
 refine CW.skip (nA (CW.seq (CW.block (sR (zM ?_)))))
 refine zU ?_
 refine rN (sR (zM ?_))
 refine zM ?_
 refine zMR ?_
 refine rN (cn h (fun hc h => ?_) (fun hc h => ?_))
 obtain ⟨v22,hv22,h⟩:=bd h
 obtain ⟨v23,hv23,h⟩:=bd h
 obtain ⟨v24,hv24,h⟩:=bd h
 obtain ⟨v25,hv25,h⟩:=bd h
 obtain ⟨v26,hv26,h⟩:=bd h
 obtain ⟨r27,hr27,h⟩:=bd h
 refine CW.dk ?_
 refine yB [(1,_)] ?_
 refine yB [(11,_)] ?_
 refine dG [(114,_),(1,_),(115,_)] [([(116,some (T.addr 1 [s18.2.toNat]))],[(116,0)])] ⟨rfl,rfl,rfl,trivial⟩ (fun E h => zO.opE (zAJ (f:=lV) row_23 hv22 (vQ h.1 h.2.1 rfl rfl) h.2.2.1 rfl) rfl) ?_
 refine dG [(116,_),(1,_)] [([(117,some (T.same 1 [s18.2.toNat]))],[(117,0)])] ⟨rfl,rfl,trivial⟩ (fun E h => zO.opE (zBd (var_22.h _ rfl rfl) h.1 h.2.1 (zN hv22 rfl) rfl) rfl) ?_
 refine yB [(1,_)] ?_
 refine yB [(5,_)] ?_
 refine dG [(118,_),(1,_),(119,_)] [([(120,some (T.addr 1 [s13.2.1.toNat]))],[(120,0)])] ⟨rfl,rfl,rfl,trivial⟩ (fun E h => zO.opE (zAJ (f:=lV) row_23 hv23 (vQ h.1 h.2.1 rfl rfl) h.2.2.1 rfl) rfl) ?_
 refine dG [(120,_),(1,_)] [([(121,some (T.same 1 [s13.2.1.toNat]))],[(121,0)])] ⟨rfl,rfl,trivial⟩ (fun E h => zO.opE (zBd (var_22.h _ rfl rfl) h.1 h.2.1 (zN hv23 rfl) rfl) rfl) ?_
 refine yB [(1,_)] ?_
 refine yB [(11,_)] ?_
 refine dG [(122,_),(1,_),(123,_)] [([(124,some (T.addr 1 [s18.2.toNat]))],[(124,0)])] ⟨rfl,rfl,rfl,trivial⟩ (fun E h => zO.opE (zAJ (f:=lV) row_23 hv24 (vQ h.1 h.2.1 rfl rfl) h.2.2.1 rfl) rfl) ?_
 refine dG [(124,_),(1,_)] [([(125,some (T.same 1 [s18.2.toNat]))],[(125,0)])] ⟨rfl,rfl,trivial⟩ (fun E h => zO.opE (zBd (var_22.h _ rfl rfl) h.1 h.2.1 (zN hv24 rfl) rfl) rfl) ?_
 refine yB [(6,_)] ?_
 refine dG [(125,_),(1,_),(126,_)] [([(127,some (T.addr 1 [s13.2.2.toNat,s18.2.toNat]))],[(127,0)])] ⟨rfl,rfl,rfl,trivial⟩ (fun E h => zO.opE (zAJ (f:=I) row_22 hv25 (vQ h.1 h.2.1 (zN hv24 rfl) rfl) h.2.2.1 rfl) rfl) ?_
 refine dG [(127,_),(1,_)] [([(128,some (I v25))],[(128,0)])] ⟨rfl,rfl,trivial⟩ (fun E h => zO.opE (zBd (var_2.h _ rfl rfl) h.1 h.2.1 (zN hv24 (zN hv25 rfl)) rfl) rfl) ?_
 refine zPK [(128,_)] ?_
 refine yB [(0,_)] ?_
 refine dG [(117,_),(1,_),(121,_),(129,_),(130,_)] [([(117,some (L 1 I v22)),(1,some ((L 1 lV s18.1).set [s18.2.toNat] T.any))],[(117,1),(1,2)]),([(131,some (T.tup [])),(117,some (L 1 I r27))],[(131,0),(117,1)]),([(1,some (L 1 lV (s18.1.set s18.2.toNat r27))),(117,some (T.same 1 [s18.2.toNat]))],[(1,2),(117,1)])] ⟨rfl,rfl,rfl,rfl,rfl,trivial⟩ (fun E h => zO.opE (tW (xs:=[.tmp 117,.tmp 121,.tmp 129,.tmp 130]) 0 117 1 [s18.2.toNat] Tryz.call44 (t_s.h _ _ _ _ _ hr27) h.1 h.2.1 (zN hv22 rfl) (zB (zF (Enc.clean (f:=I)))) (zB (zF (Enc.clean (f:=I)))) (Enc.rofree (f:=L 1 I) _) (Enc.rofree (f:=L 1 I) _) ⟨(zBJ rfl (zB (zF (Enc.clean (f:=I)))) (Enc.rofree (f:=L 1 I) _)),⟨(agM _ (zCH h.2.2.1) (tV rfl (zMS hv22 hv23 (by assumption)) inferInstance) (zPM rfl (zMS hv22 hv23 (by assumption)) rfl rfl)),⟨(agM _ (zCH h.2.2.2.1) rfl rfl),⟨(agM _ (zCH h.2.2.2.2.1) rfl rfl),trivial⟩⟩⟩⟩ wK (kG hv22 rfl) rfl rfl rfl) rfl) ?_
 refine dNA yW ?_
 refine nB (nA (CW.to [(0,I x0),(1,L 1 lV (s18.1.set s18.2.toNat r27)),(5,I s13.2.1),(6,I s13.2.2),(107,I (r21.length:Int)),(108,I s18.2)] ⟨rfl,rfl,rfl,rfl,rfl,rfl,trivial⟩ ?_))
 refine CW.region ?_
 obtain ⟨v28,hv28,h⟩:=bd h
 refine xX ?_
 refine zM ?_
 refine RW.nil ?_
 exact eN h
 refine CW.skip (nB (nA (CW.region ?_)))
 obtain ⟨v29,hv29,h⟩:=bd h
 refine xX ?_
 refine zM ?_
 refine RW.nil ?_
 exact eN h
 refine CW.exit (xA ?_)
 exact eX h
 obtain ⟨rfl,hg⟩:=hq
 refine xB ?_
 refine nA (CW.ghost hg ?_)
 refine CW.region (zM ?_)
 obtain ⟨v31,hv31,h⟩:=bd h
 refine oP (zAI hv31 rfl rfl rfl) ?_
 refine zU ?_
 refine RW.nil ?_
 refine nB (nA (CW.region (zM ?_)))
 obtain ⟨v32,hv32,h⟩:=bd h
 refine oP (zAI hv32 rfl rfl rfl) ?_
 refine zU ?_
 refine RW.nil ?_
 exact eN h
 refine CW.exit (xA ?_)
 exact eX h
 have h:=cF hc h
 refine sk2 ?_
 refine sk2 ?_
 refine sk2 ?_
 refine sk2 ?_
 refine vX ?_
 refine rN (CW.condF rfl ?_)
 refine CW.exit (xA ?_)
 exact eX h
 have h:=cF hc h
 refine sk2 ?_
 refine sk2 ?_
 refine sk2 ?_
 refine sk2 ?_
 refine sk2 ?_
 refine sk2 ?_
 refine vX ?_
 refine zM ?_
 refine sk2 ?_
 refine sk2 ?_
 refine sk2 ?_
 refine sk2 ?_
 refine vX ?_
 refine rN (CW.condF rfl ?_)
 refine CW.exit (xA ?_)
 exact eX h
 obtain ⟨rfl,hg⟩:=hq
 refine xB ?_
 refine nA (CW.ghost hg ?_)
 refine sR (zM ?_)
 refine zM ?_
 refine zM ?_
 refine RW.ghost (zH.tr 135 1 _ rfl rfl (zB (zF (Enc.clean (f:=lV)))) rfl) ?_
 obtain ⟨v34,hv34,h⟩:=bd h
 refine oP (zTQ (f:=lV) elt_23 hv34 rfl rfl (.inr ⟨_,rfl,rfl⟩) rfl) ?_
 refine zU ?_
 refine RW.ghost (zH.tr 4 138 _ rfl rfl (zB (zF (Enc.clean (f:=lV)))) rfl) ?_
 refine rN (CW.ret ?_)
 obtain rfl:=sI h
 exact rT
instance t_g:FI Tryz.prog 91 (∀ (x0:Int) (x1:List (List Int)),FnK Tryz.prog 91 [I x0,T.ro (lM x1)] (fun r:(List (List Int)) => [lM r]) (fun _ => []) (f_g x0 x1)):=⟨Tryz.call91,fun x0 x1 => FnK.mk (u_g x0 x1)⟩
section
attribute [local irreducible] RW CW DK OkL Ok xQ xR vL vW XS.post rng uZ uA ixO zT xP wZ yS zI GTo zH FnC FnK uG sG Kp Lk BsL BuL RpL Bk Lc
instance t_bv:FI Tryz.prog 130 (∀ (x0:Int),FnK Tryz.prog 130 [I x0] (fun r:Bool => [B r]) (fun _ => []) (zT6 x0)):=⟨Tryz.call130,fun x0 => iF Tryz.func130⟩
instance (x0:List Int):LH (R:=Int) (zHX x0) [0,1,7] [] (fun s1 => [(8,I s1)]) (.xs (.xe 0 [0,1,7] fun _ => []) .xr):=⟨⟩
instance t_ak:FI Tryz.prog 97 (∀ (x0:List Int),FnK Tryz.prog 97 [T.ro (lV x0),T.lit (.func (.func 130) #[] #[])] (fun r:Int => [I r]) (fun _ => []) (zT7 x0)):=⟨Tryz.call97,fun x0 => iF Tryz.func97⟩
end
theorem zXR (x0:List (List Int)) (r:(List Int)) (h:zSg x0 = some r):FnC Tryz.prog 95 [T.ro (lM x0)] [lV r] []:=by
 refine fB Tryz.func95 (fun St W w0 v => ?_)
 refine sR (oP (tK 1 rfl) ?_)
 refine rN (sR (oP (tK 1 rfl) ?_))
 refine rN (CW.seq (sR (zM ?_)))
 refine vE ?_
 refine zM ?_
 refine rN (CW.block ?_)
 obtain ⟨r5,hr5,h⟩:=bd h
 refine CW.lp (s:=([],0)) (zKO x0) (fun s1:(List Int) × Int => yP [(3,L 1 I s1.1),(6,T.ro (lM x0)),(7,I (x0.length:Int)),(8,I s1.2)]) (fun (r5:(List Int)) e E => e = .exit 0 ∧ zH ⟨St,W,w0,Tryz.f95.ntmps⟩ E (yP [(3,L 1 I r5)])) (.has ⟨rfl,rfl,rfl,rfl,trivial⟩) (fun s1 x h => ?_) hr5 (fun e E hq => ?_)
 refine sR (wF ?_)
 refine rN (CW.seq (cn h (fun hc h => ?_) (fun hc h => ?_)))
 refine CW.skip (nA (CW.seq (CW.block (sR ?_))))
 obtain ⟨v1,hv1,h⟩:=bd h
 refine qJ ?_
 refine uD ?_
 refine zU ?_
 refine rN (CW.region (zM ?_))
 refine zM ?_
 obtain ⟨r2,hr2,h⟩:=bd h
 refine cA Tryz.call97 (FnK.go (t_ak.h _) hr2) ?_
 refine oP (jK elt_111 [.tmp 14] [.slot 14 (I r2)] [r2] I ⟨.slot _ _,trivial⟩ (pkS rfl (zB (Enc.clean (f:=I) _)) rfl pkN) rfl rfl) ?_
 refine RW.ghost (zH.tr 12 3 _ rfl rfl (zB (zF (Enc.clean (f:=I)))) rfl) ?_
 obtain ⟨v3,hv3,h⟩:=bd h
 refine oP (zA1 (f:=I) elt_111 (fun _ => rfl) hv3 rfl (xZ rfl rfl) rfl) ?_
 refine zU ?_
 refine RW.ghost (zH.tr 3 16 _ rfl rfl (zB (zF (Enc.clean (f:=I)))) rfl) ?_
 refine RW.nil ?_
 refine nB (nA (CW.region ?_))
 obtain ⟨v4,hv4,h⟩:=bd h
 refine xX ?_
 refine zM ?_
 refine RW.nil ?_
 exact eN h
 refine CW.exit (xA ?_)
 exact eX h
 obtain ⟨rfl,hg⟩:=hq
 refine xB ?_
 refine nA (CW.ghost hg ?_)
 refine sR (zM ?_)
 refine zU ?_
 refine RW.ghost (zH.tr 2 3 _ rfl rfl (zB (zF (Enc.clean (f:=I)))) rfl) ?_
 refine rN (CW.ret ?_)
 obtain rfl:=sI h
 exact rT
instance t_ae:FI Tryz.prog 95 (∀ (x0:List (List Int)),FnK Tryz.prog 95 [T.ro (lM x0)] (fun r:(List Int) => [lV r]) (fun _ => []) (zSg x0)):=⟨Tryz.call95,fun x0 => FnK.mk (zXR x0)⟩
section
attribute [local irreducible] RW CW DK OkL Ok xQ xR vL vW XS.post rng uZ uA ixO zT xP wZ yS zI GTo zH FnC FnK uG sG Kp Lk BsL BuL RpL Bk Lc
instance (x0:zV) (r2:(List Int)):LH (R:=(List Int)) (zHY x0 r2) [2,12,13] [] (fun s1 => [(5,L 1 I s1.1),(14,I s1.2)]) (.xe 0 [2,12,13] fun r9 => [(5,L 1 I r9)]):=⟨⟩
instance t_al:FI Tryz.prog 61 (∀ (x0:zV) (x1:List Int),FnK Tryz.prog 61 [uF x0,T.ro (lV x1)] (fun r:(List Int) => [lV r]) (fun _ => []) (zT8 x0 x1)):=⟨Tryz.call61,fun x0 x1 => iF Tryz.func61⟩
instance (x0:List Int) (x1:List Int):LH (R:=Bool) (zRJ x0 x1) [0,1] [] (fun s1 => [(5,I s1)]) (.xs (.xe 0 [0,1] fun _ => []) .xr):=⟨⟩
instance t_aO:FI Tryz.prog 38 (∀ (x0:List Int) (x1:List Int),FnK Tryz.prog 38 [T.ro (lV x0),T.ro (lV x1)] (fun r:Bool => [B r]) (fun _ => []) (zRK x0 x1)):=⟨Tryz.call38,fun x0 x1 => iF Tryz.func38⟩
instance (x0:List (List Int)) (x1:List (List Int)):LH (R:=Bool) (zV0 x0 x1) [0,1] [] (fun s1 => [(5,I s1)]) (.xs (.xe 0 [0,1] fun _ => []) .xr):=⟨⟩
instance t_H:FI Tryz.prog 15 (∀ (x0:List (List Int)) (x1:List (List Int)),FnK Tryz.prog 15 [T.ro (lM x0),T.ro (lM x1)] (fun r:Bool => [B r]) (fun _ => []) (f_H x0 x1)):=⟨Tryz.call15,fun x0 x1 => iF Tryz.func15⟩
instance (x0:List (List (List Int))) (x1:List (List (List Int))):LH (R:=Bool) (zRL x0 x1) [0,1] [] (fun s1 => [(5,I s1)]) (.xs (.xe 0 [0,1] fun _ => []) .xr):=⟨⟩
instance t_aW:FI Tryz.prog 39 (∀ (x0:List (List (List Int))) (x1:List (List (List Int))),FnK Tryz.prog 39 [T.ro (lC x0),T.ro (lC x1)] (fun r:Bool => [B r]) (fun _ => []) (zTs x0 x1)):=⟨Tryz.call39,fun x0 x1 => iF Tryz.func39⟩
instance t_bh:FI Tryz.prog 16 (∀ (x0:SPr) (x1:SPr),FnK Tryz.prog 16 [qPr x0,qPr x1] (fun r:Bool => [B r]) (fun _ => []) (zTu x0 x1)):=⟨Tryz.call16,fun x0 x1 => iF Tryz.func16⟩
instance t_bg:FI Tryz.prog 17 (∀ (x0:zD) (x1:zD),FnK Tryz.prog 17 [zY x0,zY x1] (fun r:Bool => [B r]) (fun _ => []) (zTt x0 x1)):=⟨Tryz.call17,fun x0 x1 => iF Tryz.func17⟩
instance  : LH (R:=Int × (List Int)) zN6 [] [] (fun s1 => [(0,L 1 I s1.1),(1,I s1.2.1),(5,I s1.2.2)]) (.xe 0 [] fun r4 => [(0,L 1 I r4.1),(1,I r4.2)]):=⟨⟩
instance t_af:FI Tryz.prog 40 (∀ (x0:List Int) (x1:Int),FnK Tryz.prog 40 [L 1 I x0,I x1] (fun r:Int × (List Int) => [I r.1]) (fun r => [(0,lV r.2)]) (zOw x0 x1)):=⟨Tryz.call40,fun x0 x1 => iF Tryz.func40⟩
instance  : LH (R:=Int × (List (List Int))) zV1 [] [] (fun s1 => [(0,L 1 lV s1.1),(1,I s1.2.1),(5,I s1.2.2)]) (.xe 0 [] fun r4 => [(0,L 1 lV r4.1),(1,I r4.2)]):=⟨⟩
instance t_N:FI Tryz.prog 20 (∀ (x0:List (List Int)) (x1:Int),FnK Tryz.prog 20 [L 1 lV x0,I x1] (fun r:Int × (List (List Int)) => [I r.1]) (fun r => [(0,lM r.2)]) (f_N x0 x1)):=⟨Tryz.call20,fun x0 x1 => iF Tryz.func20⟩
instance  : LH (R:=Int × (List (List (List Int)))) zRM [] [] (fun s1 => [(0,L 1 lM s1.1),(1,I s1.2.1),(5,I s1.2.2)]) (.xe 0 [] fun r4 => [(0,L 1 lM r4.1),(1,I r4.2)]):=⟨⟩
instance t_ap:FI Tryz.prog 41 (∀ (x0:List (List (List Int))) (x1:Int),FnK Tryz.prog 41 [L 1 lM x0,I x1] (fun r:Int × (List (List (List Int))) => [I r.1]) (fun r => [(0,lC r.2)]) (zRN x0 x1)):=⟨Tryz.call41,fun x0 x1 => iF Tryz.func41⟩
end
theorem zXS (x0:SPr) (x1:Int) (r:Int × SPr) (h:zRO x0 x1 = some r):FnC Tryz.prog 18 [xU x0,I x1] [I r.1] [(0,xU r.2)]:=by
 refine fB Tryz.func18 (fun St W w0 v => ?_) (ht:=⟨Top.of_clean _ (Enc.clean (f:=xU) _),by first | (simp only [Top];done) | (simp [Top];done) | simp [Top,vM],trivial⟩)
 refine sR (oP (zMF rfl (zB (xE ⟨(zF (Enc.clean (f:=I))),(zF (Enc.clean (f:=lV))),(zF (Enc.clean (f:=lM))),trivial⟩)) rfl) ?_)
 refine zU ?_
 refine rN (sR (sF ?_))
 refine tX ?_
 refine zM ?_
 obtain ⟨r1,hr1,h⟩:=bd h
 refine oP (tW (xs:=[.tmp 6,.tmp 7]) 0 6 2 [0,0] Tryz.call40 (t_af.h _ _ _ hr1) rfl rfl rfl (zB (zF (Enc.clean (f:=I)))) (zB (zF (Enc.clean (f:=I)))) (Enc.rofree (f:=L 1 I) _) (Enc.rofree (f:=L 1 I) _) ⟨(zBJ rfl (zB (zF (Enc.clean (f:=I)))) (Enc.rofree (f:=L 1 I) _)),⟨(agM _ rfl rfl rfl),trivial⟩⟩ (wQ (f:=I) inferInstance wK) rfl rfl rfl rfl) ?_
 refine zU ?_
 refine rN (sR (sF ?_))
 refine tX ?_
 refine zM ?_
 obtain ⟨r2,hr2,h⟩:=bd h
 refine oP (tW (xs:=[.tmp 10,.tmp 11]) 0 10 2 [1,0] Tryz.call20 (t_N.h _ _ _ hr2) rfl rfl rfl (zB (zF (Enc.clean (f:=lV)))) (zB (zF (Enc.clean (f:=lV)))) (Enc.rofree (f:=L 1 lV) _) (Enc.rofree (f:=L 1 lV) _) ⟨(zBJ rfl (zB (zF (Enc.clean (f:=lV)))) (Enc.rofree (f:=L 1 lV) _)),⟨(agM _ rfl rfl rfl),trivial⟩⟩ (wQ (f:=I) inferInstance wK) rfl rfl rfl rfl) ?_
 refine zU ?_
 refine rN (sR (sF ?_))
 refine tX ?_
 refine zM ?_
 obtain ⟨r3,hr3,h⟩:=bd h
 refine oP (tW (xs:=[.tmp 14,.tmp 15]) 0 14 2 [2,0] Tryz.call41 (t_ap.h _ _ _ hr3) rfl rfl rfl (zB (zF (Enc.clean (f:=lM)))) (zB (zF (Enc.clean (f:=lM)))) (Enc.rofree (f:=L 1 lM) _) (Enc.rofree (f:=L 1 lM) _) ⟨(zBJ rfl (zB (zF (Enc.clean (f:=lM)))) (Enc.rofree (f:=L 1 lM) _)),⟨(agM _ rfl rfl rfl),trivial⟩⟩ (wQ (f:=I) inferInstance wK) rfl rfl rfl rfl) ?_
 refine zU ?_
 refine RW.ghost (zH.trf 0 [0] 2 [0,0] _ _ rfl rfl rfl rfl rfl (zB (zF (Enc.clean (f:=I)))) rfl) ?_
 refine RW.ghost (zH.trf 0 [1] 2 [1,0] _ _ rfl rfl rfl rfl rfl (zB (zF (Enc.clean (f:=lV)))) rfl) ?_
 refine RW.ghost (zH.trf 0 [2] 2 [2,0] _ _ rfl rfl rfl rfl rfl (zB (zF (Enc.clean (f:=lM)))) rfl) ?_
 refine rN (sR (zM ?_))
 refine zU ?_
 refine rN (CW.ret ?_)
 obtain rfl:=sI h
 exact rT
instance t_a4:FI Tryz.prog 18 (∀ (x0:SPr) (x1:Int),FnK Tryz.prog 18 [xU x0,I x1] (fun r:Int × SPr => [I r.1]) (fun r => [(0,xU r.2)]) (zRO x0 x1)):=⟨Tryz.call18,fun x0 x1 => FnK.mk (zXS x0 x1)⟩
theorem zXT (x0:zD) (x1:Int) (r:Int × zD) (h:zRP x0 x1 = some r):FnC Tryz.prog 19 [yC x0,I x1] [I r.1] [(0,yC r.2)]:=by
 refine fB Tryz.func19 (fun St W w0 v => ?_) (ht:=⟨Top.of_clean _ (Enc.clean (f:=yC) _),by first | (simp only [Top];done) | (simp [Top];done) | simp [Top,vM],trivial⟩)
 refine sR (oP (zMF rfl (zB (xE ⟨(Enc.clean (f:=I) _),(Enc.clean (f:=I) _),(zF (Enc.clean (f:=lM))),trivial⟩)) rfl) ?_)
 refine zU ?_
 refine rN (sR (sF ?_))
 refine tX ?_
 refine zM ?_
 obtain ⟨r1,hr1,h⟩:=bd h
 refine oP (tW (xs:=[.tmp 6,.tmp 7]) 0 6 2 [2,0] Tryz.call41 (t_ap.h _ _ _ hr1) rfl rfl rfl (zB (zF (Enc.clean (f:=lM)))) (zB (zF (Enc.clean (f:=lM)))) (Enc.rofree (f:=L 1 lM) _) (Enc.rofree (f:=L 1 lM) _) ⟨(zBJ rfl (zB (zF (Enc.clean (f:=lM)))) (Enc.rofree (f:=L 1 lM) _)),⟨(agM _ rfl rfl rfl),trivial⟩⟩ (wQ (f:=I) inferInstance wK) rfl rfl rfl rfl) ?_
 refine zU ?_
 refine RW.ghost (zH.trf 0 [2] 2 [2,0] _ _ rfl rfl rfl rfl rfl (zB (zF (Enc.clean (f:=lM)))) rfl) ?_
 refine rN (sR (zM ?_))
 refine zU ?_
 refine rN (CW.ret ?_)
 obtain rfl:=sI h
 exact rT
instance t_aX:FI Tryz.prog 19 (∀ (x0:zD) (x1:Int),FnK Tryz.prog 19 [yC x0,I x1] (fun r:Int × zD => [I r.1]) (fun r => [(0,yC r.2)]) (zRP x0 x1)):=⟨Tryz.call19,fun x0 x1 => FnK.mk (zXT x0 x1)⟩
section
attribute [local irreducible] RW CW DK OkL Ok xQ xR vL vW XS.post rng uZ uA ixO zT xP wZ yS zI GTo zH FnC FnK uG sG Kp Lk BsL BuL RpL Bk Lc
instance (x0:List Int):LH (R:=Int) (zKB x0) [0] [] (fun s1 => [(1,I s1.1),(5,I s1.2)]) (.xs (.xe 0 [0] fun r4 => [(1,I r4)]) .xr):=⟨⟩
instance t_aq:FI Tryz.prog 42 (∀ (x0:List Int) (x1:Int),FnK Tryz.prog 42 [T.ro (lV x0),I x1] (fun r:Int => [I r]) (fun _ => []) (zRQ x0 x1)):=⟨Tryz.call42,fun x0 x1 => iF Tryz.func42⟩
instance (x0:List (List Int)):LH (R:=Int) (zRR x0) [0] [] (fun s1 => [(1,I s1.1),(5,I s1.2)]) (.xs (.xe 0 [0] fun r4 => [(1,I r4)]) .xr):=⟨⟩
instance t_aC:FI Tryz.prog 21 (∀ (x0:List (List Int)) (x1:Int),FnK Tryz.prog 21 [T.ro (lM x0),I x1] (fun r:Int => [I r]) (fun _ => []) (zTv x0 x1)):=⟨Tryz.call21,fun x0 x1 => iF Tryz.func21⟩
end
end Go.Wk
