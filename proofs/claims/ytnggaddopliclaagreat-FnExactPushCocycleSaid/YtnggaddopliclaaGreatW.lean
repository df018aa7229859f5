/- The program's PushCocycle returns what the reference's returns, for all arguments; no conditions. -/
import Derived.Test.YtnggaddopliclaaGreatWT
namespace Go.Wk
open Go Go.Proofs Go.Ab
set_option maxRecDepth 100000
set_option maxHeartbeats 4000000
section
attribute [local irreducible] RW CW DK OkL Ok xG xH wW vM XS.post rng uJ vQ ixO yB wJ vF yP zJ GTo zN FnC FnK vT tE Kp Lk BsL BuL RpL Bk Lc
instance t_aS:FI Tryz.prog 44 (∀ (x0:List Int) (x1:Int),FnK Tryz.prog 44 [T.ro (lV x0),I x1] (fun r:Int => [I r]) (fun _ => []) (zNS x0 x1)):=⟨Tryz.call44,fun x0 x1 => iF Tryz.func44⟩
instance (x0:List (List Int)):LH (R:=Int) (zQL x0) [0] [] (fun s1 => [(1,I s1.1),(5,I s1.2)]) (.xs (.xe 0 [0] fun r5 => [(1,I r5)]) .xr):=⟨⟩
instance t_aa:FI Tryz.prog 12 (∀ (x0:List (List Int)) (x1:Int),FnK Tryz.prog 12 [T.ro (lM x0),I x1] (fun r:Int => [I r]) (fun _ => []) (zLR x0 x1)):=⟨Tryz.call12,fun x0 x1 => iF Tryz.func12⟩
instance (x0:List (List (List Int))):LH (R:=Int) (zQM x0) [0] [] (fun s1 => [(1,I s1.1),(5,I s1.2)]) (.xs (.xe 0 [0] fun r5 => [(1,I r5)]) .xr):=⟨⟩
instance t_aF:FI Tryz.prog 45 (∀ (x0:List (List (List Int))) (x1:Int),FnK Tryz.prog 45 [T.ro (lC x0),I x1] (fun r:Int => [I r]) (fun _ => []) (zPM x0 x1)):=⟨Tryz.call45,fun x0 x1 => iF Tryz.func45⟩
instance t_aT:FI Tryz.prog 9 (∀ (x0:SPr) (x1:Int),FnK Tryz.prog 9 [qPr x0,I x1] (fun r:Int => [I r]) (fun _ => []) (zPN x0 x1)):=⟨Tryz.call9,fun x0 x1 => iF Tryz.func9⟩
instance t_aG:FI Tryz.prog 10 (∀ (x0:zC) (x1:Int),FnK Tryz.prog 10 [yR x0,I x1] (fun r:Int => [I r]) (fun _ => []) (zNT x0 x1)):=⟨Tryz.call10,fun x0 x1 => iF Tryz.func10⟩
instance t_a2:FI Tryz.prog 11 (∀ (x0:zL) (x1:Int),FnK Tryz.prog 11 [wR x0,I x1] (fun r:Int => [I r]) (fun _ => []) (zQj x0 x1)):=⟨Tryz.call11,fun x0 x1 => iF Tryz.func11⟩
instance (x0:List Int):LH (R:=(List Int)) (zNU x0) [0] [] (fun s1 => [(3,L 1 I s1.1),(4,I s1.2)]) (.xe 0 [0] fun r5 => [(3,L 1 I r5)]):=⟨⟩
instance t_ab:FI Tryz.prog 51 (∀ (x0:List Int),FnK Tryz.prog 51 [T.ro (lV x0)] (fun r:(List Int) => [lV r]) (fun _ => []) (zLS x0)):=⟨Tryz.call51,fun x0 => iF Tryz.func51⟩
instance (x0:List (List Int)):LH (R:=(List (List Int))) (zRG x0) [0] [] (fun s1 => [(3,L 1 lV s1.1),(4,I s1.2)]) (.xe 0 [0] fun r6 => [(3,L 1 lV r6)]):=⟨⟩
instance t_v:FI Tryz.prog 17 (∀ (x0:List (List Int)),FnK Tryz.prog 17 [T.ro (lM x0)] (fun r:(List (List Int)) => [lM r]) (fun _ => []) (f_v x0)):=⟨Tryz.call17,fun x0 => iF Tryz.func17⟩
instance (x0:List (List (List Int))):LH (R:=(List (List (List Int)))) (zNV x0) [0] [] (fun s1 => [(3,L 1 lM s1.1),(4,I s1.2)]) (.xe 0 [0] fun r6 => [(3,L 1 lM r6)]):=⟨⟩
instance t_al:FI Tryz.prog 52 (∀ (x0:List (List (List Int))),FnK Tryz.prog 52 [T.ro (lC x0)] (fun r:(List (List (List Int))) => [lC r]) (fun _ => []) (zNW x0)):=⟨Tryz.call52,fun x0 => iF Tryz.func52⟩
instance t_T:FI Tryz.prog 14 (∀ (x0:SPr),FnK Tryz.prog 14 [qPr x0] (fun r:SPr => [xU r]) (fun _ => []) (f_T x0)):=⟨Tryz.call14,fun x0 => iF Tryz.func14⟩
instance t_w:FI Tryz.prog 15 (∀ (x0:zC),FnK Tryz.prog 15 [yR x0] (fun r:zC => [zV r]) (fun _ => []) (f_w x0)):=⟨Tryz.call15,fun x0 => iF Tryz.func15⟩
instance t_X:FI Tryz.prog 16 (∀ (x0:zL),FnK Tryz.prog 16 [wR x0] (fun r:zL => [xT r]) (fun _ => []) (f_X x0)):=⟨Tryz.call16,fun x0 => iF Tryz.func16⟩
instance t_aV:FI Tryz.prog 92 (∀ (x0:Int),FnK Tryz.prog 92 [I x0] (fun r:Bool => [B r]) (fun _ => []) (zNX x0)):=⟨Tryz.call92,fun x0 => iF Tryz.func92⟩
instance (x0:List Int):LH (R:=Int) (zI9 x0) [0] [] (fun s1 => [(3,I s1.1),(4,I s1.2)]) (.xe 0 [0] fun r5 => [(3,I r5)]):=⟨⟩
instance t_ae:FI Tryz.prog 178 (∀ (x0:List Int),FnK Tryz.prog 178 [T.ro (lV x0)] (fun r:Int => [I r]) (fun _ => []) (zPO x0)):=⟨Tryz.call178,fun x0 => iF Tryz.func178⟩
instance t_aL:FI Tryz.prog 93 (∀ (x0:Int) (x1:Int) (x2:Int),FnK Tryz.prog 93 [I x0,I x1,I x2] (fun r:Bool => [B r]) (fun _ => []) (zLT x0 x1 x2)):=⟨Tryz.call93,fun x0 x1 x2 => iF Tryz.func93⟩
instance (x0:List Int) (x1:List Int) (x2:Int):LH (R:=Bool) (zLg x0 x1 x2) [0,1,2] [] (fun s1 => [(7,I s1)]) (.xs (.xe 0 [0,1,2] fun _ => []) .xr):=⟨⟩
instance t_ad:FI Tryz.prog 179 (∀ (x0:List Int) (x1:List Int) (x2:Int),FnK Tryz.prog 179 [T.ro (lV x0),T.ro (lV x1),I x2] (fun r:Bool => [B r]) (fun _ => []) (zNY x0 x1 x2)):=⟨Tryz.call179,fun x0 x1 x2 => iF Tryz.func179⟩
instance (x0:SPr):LH (R:=Bool) (zNZ x0) [1,3] [] (fun s1 => [(4,I s1)]) (.xs (.xe 0 [] fun _ => []) .xr):=⟨⟩
instance (x0:SPr) (s7:Int):LH (R:=Bool) (zOa x0 s7) [1,3,5] [] (fun s8 => [(6,I s8)]) (.xs (.xe 4 [] fun _ => []) .xr):=⟨⟩
instance (x0:SPr):LH (R:=Bool) (zJL x0) [1,3] [] (fun s7 => [(5,I s7)]) (.xs (.xe 2 [1,3] fun _ => []) .xr):=⟨⟩
instance t_o:FI Tryz.prog 138 (∀ (x0:SPr),FnK Tryz.prog 138 [qPr x0] (fun r:Bool => [B r]) (fun _ => []) (f_o x0)):=⟨Tryz.call138,fun x0 => iF Tryz.func138⟩
instance t_u:FI Tryz.prog 131 (∀ (x0:List Int),FnK Tryz.prog 131 [T.ro (lV x0)] (fun r:(List Int) => [lV r]) (fun _ => []) (f_u x0)):=⟨Tryz.call131,fun x0 => iF Tryz.func131⟩
instance (g_a:SPr → Int → (List Int) → (List Int) → Option (List Int)) (x0:SPr) (x1:Int) (x2:List Int) (s5:(List Int) × Int):LH (R:=(List Int)) (zOb g_a x0 x1 x2 s5) [1,2,3,7,9] [] (fun s6 => [(8,L 1 I s6.1),(10,I s6.2)]) (.xe 2 [] fun r11 => [(8,L 1 I r11)]):=⟨⟩
instance (g_a:SPr → Int → (List Int) → (List Int) → Option (List Int)) (x0:SPr) (x1:Int) (x2:List Int):LH (R:=(List Int)) (zOc g_a x0 x1 x2) [1,2,3,7] [] (fun s5 => [(8,L 1 I s5.1),(9,I s5.2)]) (.xe 0 [1,2,3,7] fun r13 => [(8,L 1 I r13)]):=⟨⟩
theorem zUk {g_a:SPr → Int → (List Int) → (List Int) → Option (List Int)} [FI Tryz.prog 210 (∀ (x0:SPr) (x1:Int) (x2:List Int) (x3:List Int),FnK Tryz.prog 210 [qPr x0,I x1,T.ro (lV x2),T.ro (lV x3)] (fun r:(List Int) => [lV r]) (fun _ => []) (g_a x0 x1 x2 x3))]:∀ (x0:SPr) (x1:Int) (x2:List Int),FnK Tryz.prog 209 [qPr x0,I x1,T.ro (lV x2)] (fun r:(List Int) => [lV r]) (fun _ => []) (b_e g_a x0 x1 x2):=fun x0 x1 x2 => iF Tryz.func209
theorem zUl {g_a:SPr → Int → (List Int) → (List Int) → Option (List Int)} (H_a:∀ (x0:SPr) (x1:Int) (x2:List Int) (x3:List Int) r,g_a x0 x1 x2 x3 = some r → FnC Tryz.prog 210 [qPr x0,I x1,T.ro (lV x2),T.ro (lV x3)] [lV r] []) (x0:SPr) (x1:Int) (x2:List Int) (r:(List Int)) (h:b_e g_a x0 x1 x2 = some r):FnC Tryz.prog 209 [qPr x0,I x1,T.ro (lV x2)] [lV r] []:=by
 have:FI Tryz.prog 210 (∀ (x0:SPr) (x1:Int) (x2:List Int) (x3:List Int),FnK Tryz.prog 210 [qPr x0,I x1,T.ro (lV x2),T.ro (lV x3)] (fun r:(List Int) => [lV r]) (fun _ => []) (g_a x0 x1 x2 x3)):=⟨Tryz.call210,fun x0 x1 x2 x3 => FnK.mk (H_a x0 x1 x2 x3)⟩
 exact (zUk x0 x1 x2).go h
instance (g_e:SPr → Int → (List Int) → Option (List Int)) (x0:SPr) (x1:Int) (x3:List Int):LH (R:=(List Int)) (zPP g_e x0 x1 x3) [1,2,3,4,11] [] (fun s1 => [(10,L 1 I s1.1),(12,I s1.2)]) (.xe 0 [] fun r9 => [(10,L 1 I r9)]):=⟨⟩
theorem zUm {g_e:SPr → Int → (List Int) → Option (List Int)} [FI Tryz.prog 209 (∀ (x0:SPr) (x1:Int) (x2:List Int),FnK Tryz.prog 209 [qPr x0,I x1,T.ro (lV x2)] (fun r:(List Int) => [lV r]) (fun _ => []) (g_e x0 x1 x2))] {g_a:SPr → Int → (List Int) → (List Int) → Option (List Int)} [FI Tryz.prog 210 (∀ (x0:SPr) (x1:Int) (x2:List Int) (x3:List Int),FnK Tryz.prog 210 [qPr x0,I x1,T.ro (lV x2),T.ro (lV x3)] (fun r:(List Int) => [lV r]) (fun _ => []) (g_a x0 x1 x2 x3))]:∀ (x0:SPr) (x1:Int) (x2:List Int) (x3:List Int),FnK Tryz.prog 210 [qPr x0,I x1,T.ro (lV x2),T.ro (lV x3)] (fun r:(List Int) => [lV r]) (fun _ => []) (b_a g_e g_a x0 x1 x2 x3):=fun x0 x1 x2 x3 => iF Tryz.func210
theorem zUn {g_e:SPr → Int → (List Int) → Option (List Int)} (H_e:∀ (x0:SPr) (x1:Int) (x2:List Int) r,g_e x0 x1 x2 = some r → FnC Tryz.prog 209 [qPr x0,I x1,T.ro (lV x2)] [lV r] []) {g_a:SPr → Int → (List Int) → (List Int) → Option (List Int)} (H_a:∀ (x0:SPr) (x1:Int) (x2:List Int) (x3:List Int) r,g_a x0 x1 x2 x3 = some r → FnC Tryz.prog 210 [qPr x0,I x1,T.ro (lV x2),T.ro (lV x3)] [lV r] []) (x0:SPr) (x1:Int) (x2:List Int) (x3:List Int) (r:(List Int)) (h:b_a g_e g_a x0 x1 x2 x3 = some r):FnC Tryz.prog 210 [qPr x0,I x1,T.ro (lV x2),T.ro (lV x3)] [lV r] []:=by
 have:FI Tryz.prog 209 (∀ (x0:SPr) (x1:Int) (x2:List Int),FnK Tryz.prog 209 [qPr x0,I x1,T.ro (lV x2)] (fun r:(List Int) => [lV r]) (fun _ => []) (g_e x0 x1 x2)):=⟨Tryz.call209,fun x0 x1 x2 => FnK.mk (H_e x0 x1 x2)⟩
 have:FI Tryz.prog 210 (∀ (x0:SPr) (x1:Int) (x2:List Int) (x3:List Int),FnK Tryz.prog 210 [qPr x0,I x1,T.ro (lV x2),T.ro (lV x3)] (fun r:(List Int) => [lV r]) (fun _ => []) (g_a x0 x1 x2 x3)):=⟨Tryz.call210,fun x0 x1 x2 x3 => FnK.mk (H_a x0 x1 x2 x3)⟩
 exact (zUm x0 x1 x2 x3).go h
end
theorem zTE:∀ n,(∀ (x0:SPr) (x1:Int) (x2:List Int) r,zJM n x0 x1 x2 = some r → FnC Tryz.prog 209 [qPr x0,I x1,T.ro (lV x2)] [lV r] []) ∧ (∀ (x0:SPr) (x1:Int) (x2:List Int) (x3:List Int) r,zJN n x0 x1 x2 x3 = some r → FnC Tryz.prog 210 [qPr x0,I x1,T.ro (lV x2),T.ro (lV x3)] [lV r] []):=by
  intro n
  induction n with
  | zero => exact ⟨(fun _ _ _ r h => by simp [zJM] at h),(fun _ _ _ _ r h => by simp [zJN] at h)⟩
  | succ n ih => exact ⟨(fun x0 x1 x2 r h => zUl ih.2 x0 x1 x2 r (by simpa [zJM] using h)),(fun x0 x1 x2 x3 r h => zUn ih.1 ih.2 x0 x1 x2 x3 r (by simpa [zJN] using h))⟩
theorem u_e (x0:SPr) (x1:Int) (x2:List Int) (r:(List Int)) (h:f_e x0 x1 x2 = some r):FnC Tryz.prog 209 [qPr x0,I x1,T.ro (lV x2)] [lV r] []:=by
 obtain ⟨n,hn⟩:=sO h
 exact (zTE n).1 x0 x1 x2 r hn
theorem u_a (x0:SPr) (x1:Int) (x2:List Int) (x3:List Int) (r:(List Int)) (h:f_a x0 x1 x2 x3 = some r):FnC Tryz.prog 210 [qPr x0,I x1,T.ro (lV x2),T.ro (lV x3)] [lV r] []:=by
 obtain ⟨n,hn⟩:=sO h
 exact (zTE n).2 x0 x1 x2 x3 r hn
instance t_e:FI Tryz.prog 209 (∀ (x0:SPr) (x1:Int) (x2:List Int),FnK Tryz.prog 209 [qPr x0,I x1,T.ro (lV x2)] (fun r:(List Int) => [lV r]) (fun _ => []) (f_e x0 x1 x2)):=⟨Tryz.call209,fun x0 x1 x2 => FnK.mk (u_e x0 x1 x2)⟩
instance t_a:FI Tryz.prog 210 (∀ (x0:SPr) (x1:Int) (x2:List Int) (x3:List Int),FnK Tryz.prog 210 [qPr x0,I x1,T.ro (lV x2),T.ro (lV x3)] (fun r:(List Int) => [lV r]) (fun _ => []) (f_a x0 x1 x2 x3)):=⟨Tryz.call210,fun x0 x1 x2 x3 => FnK.mk (u_a x0 x1 x2 x3)⟩
section
attribute [local irreducible] RW CW DK OkL Ok xG xH wW vM XS.post rng uJ vQ ixO yB wJ vF yP zJ GTo zN FnC FnK vT tE Kp Lk BsL BuL RpL Bk Lc
instance (x0:SPr) (x1:Int):LH (R:=(List Int)) (zLh x0 x1) [1,4] [] (fun s1 => [(3,I s1.1),(9,L 1 I s1.2.1),(10,T.ro (lV s1.2.2))]) (.xe 0 [1,4] fun r8 => [(9,L 1 I r8)]):=⟨⟩
instance t_as:FI Tryz.prog 208 (∀ (x0:SPr) (x1:Int) (x2:List Int) (x3:Int),FnK Tryz.prog 208 [qPr x0,I x1,T.ro (lV x2),I x3] (fun r:(List Int) => [lV r]) (fun _ => []) (zPQ x0 x1 x2 x3)):=⟨Tryz.call208,fun x0 x1 x2 x3 => iF Tryz.func208⟩
instance (x0:List Int) (x1:List Int):LH (R:=Bool) (zTH x0 x1) [0,1] [] (fun s1 => [(5,I s1)]) (.xs (.xe 0 [0,1] fun _ => []) .xr):=⟨⟩
instance t_P:FI Tryz.prog 149 (∀ (x0:List Int) (x1:List Int),FnK Tryz.prog 149 [T.ro (lV x0),T.ro (lV x1)] (fun r:Bool => [B r]) (fun _ => []) (f_P x0 x1)):=⟨Tryz.call149,fun x0 x1 => iF Tryz.func149⟩
instance t_ba:FI Tryz.prog 82 (∀ (x0:Int) (x1:Int),FnK Tryz.prog 82 [I x0,I x1] (fun r:(List Int) => [lV r]) (fun _ => []) (zRH x0 x1)):=⟨Tryz.call82,fun x0 x1 => iF Tryz.func82⟩
instance (x0:SPr) (x1:Int):LH (R:=yL) (zOd x0 x1) [1,2,4,5,6] [] (fun s1 => [(7,I s1)]) (.xs (.xe 0 [] fun _ => []) .xr):=⟨⟩
instance (x0:SPr) (x1:Int) (s7:Int):LH (R:=yL) (zOe x0 x1 s7) [1,2,4,5,6,9] [] (fun s8 => [(10,I s8)]) (.xs (.xe 4 [] fun _ => []) .xr):=⟨⟩
instance (x0:SPr) (x1:Int):LH (R:=yL) (zOf x0 x1) [1,2,4,5,6] [] (fun s7 => [(9,I s7)]) (.xs (.xe 2 [] fun _ => []) .xr):=⟨⟩
instance (x0:SPr) (x1:Int):LH (R:=yL) (zOg x0 x1) [1,2,4,5,6,14,15,16] [16] (fun s16 => [(17,T.ro (lV s16.1)),(18,I s16.2)]) (.xe 8 [] fun r46 => [(17,T.ro (lV r46))]):=⟨⟩
instance (x0:SPr) (x1:Int) (v38:List Int):LH (R:=yL) (zOh x0 x1 v38) [1,2,4,5,6,14] [] (fun s15 => [(15,I s15)]) (.xs (.xe 6 [1,2,5,6,14] fun _ => []) .xr):=⟨⟩
instance t_k:FI Tryz.prog 201 (∀ (x0:SPr) (x1:Int),FnK Tryz.prog 201 [qPr x0,I x1] (fun r:yL => [zEi r]) (fun _ => []) (f_k x0 x1)):=⟨Tryz.call201,fun x0 x1 => iF Tryz.func201⟩
instance (x0:SPr):LH (R:=yL) (zIA x0) [1,2] [] (fun s1 => [(3,I s1)]) (.xs (.xe 0 [1] fun _ => []) .xr):=⟨⟩
instance t_at:FI Tryz.prog 185 (∀ (x0:SPr),FnK Tryz.prog 185 [qPr x0] (fun r:yL => [zEi r]) (fun _ => []) (zRI x0)):=⟨Tryz.call185,fun x0 => iF Tryz.func185⟩
instance t_bb:FI Tryz.prog 145 (∀ (x0:SPr),FnK Tryz.prog 145 [qPr x0] (fun r:Bool => [B r]) (fun _ => []) (zRJ x0)):=⟨Tryz.call145,fun x0 => iF Tryz.func145⟩
instance t_a4:FI Tryz.prog 90 (∀ (x0:SPr),FnK Tryz.prog 90 [qPr x0] (fun r:Bool => [B r]) (fun _ => []) (zPR x0)):=⟨Tryz.call90,fun x0 => iF Tryz.func90⟩
instance (x0:Int) (x2:List Int):LH (R:=Bool) (zPS x0 x2) [0,2] [] (fun s1 => [(7,I s1)]) (.xs (.xe 0 [0,2] fun _ => []) .xr):=⟨⟩
instance t_W:FI Tryz.prog 94 (∀ (x0:Int) (x1:Int) (x2:List Int),FnK Tryz.prog 94 [I x0,I x1,T.ro (lV x2)] (fun r:Bool => [B r]) (fun _ => []) (f_W x0 x1 x2)):=⟨Tryz.call94,fun x0 x1 x2 => iF Tryz.func94⟩
instance (x0:Int) (x1:Int) (x2:List (List Int)):LH (R:=Bool) (zLi x0 x1 x2) [0,1,2] [] (fun s1 => [(7,I s1)]) (.xs (.xe 0 [0,1,2] fun _ => []) .xr):=⟨⟩
instance t_av:FI Tryz.prog 146 (∀ (x0:Int) (x1:Int) (x2:List (List Int)),FnK Tryz.prog 146 [I x0,I x1,T.ro (lM x2)] (fun r:Bool => [B r]) (fun _ => []) (zPT x0 x1 x2)):=⟨Tryz.call146,fun x0 x1 x2 => iF Tryz.func146⟩
instance (x0:Int):LH (R:=(List (List Int))) (zOi x0) [0] [] (fun s1 => [(3,L 1 lV s1.1),(4,I s1.2)]) (.xe 0 [0] fun r5 => [(3,L 1 lV r5)]):=⟨⟩
instance t_V:FI Tryz.prog 147 (∀ (x0:Int),FnK Tryz.prog 147 [I x0] (fun r:(List (List Int)) => [lM r]) (fun _ => []) (f_V x0)):=⟨Tryz.call147,fun x0 => iF Tryz.func147⟩
instance (x0:Int) (x1:List Int) (x2:List (List Int)) (s5:(List Int) × Int):LH (R:=(List Int)) (zIB x0 x1 x2 s5) [0,1,2,10] [] (fun s6 => [(9,L 1 I s6.1),(11,I s6.2)]) (.xe 2 [] fun r12 => [(9,L 1 I r12)]):=⟨⟩
instance (x0:Int) (x1:List Int) (x2:List (List Int)):LH (R:=(List Int)) (zIC x0 x1 x2) [0,1,2] [] (fun s5 => [(9,L 1 I s5.1),(10,I s5.2)]) (.xe 0 [0,1,2] fun r14 => [(9,L 1 I r14)]):=⟨⟩
instance t_n:FI Tryz.prog 98 (∀ (x0:Int) (x1:List Int) (x2:List (List Int)) (x3:Int),FnK Tryz.prog 98 [I x0,T.ro (lV x1),T.ro (lM x2),I x3] (fun r:(List Int) => [lV r]) (fun _ => []) (f_n x0 x1 x2 x3)):=⟨Tryz.call98,fun x0 x1 x2 x3 => iF Tryz.func98⟩
instance (x0:Int) (x1:List (List Int)) (x2:List (List Int)) (x3:Int):LH (R:=(List (List Int))) (zID x0 x1 x2 x3) [0,1,2,3] [] (fun s1 => [(9,L 1 lV s1.1),(10,I s1.2)]) (.xe 0 [0,1,2,3] fun r5 => [(9,L 1 lV r5)]):=⟨⟩
instance t_t:FI Tryz.prog 50 (∀ (x0:Int) (x1:List (List Int)) (x2:List (List Int)) (x3:Int),FnK Tryz.prog 50 [I x0,T.ro (lM x1),T.ro (lM x2),I x3] (fun r:(List (List Int)) => [lM r]) (fun _ => []) (f_t x0 x1 x2 x3)):=⟨Tryz.call50,fun x0 x1 x2 x3 => iF Tryz.func50⟩
instance (x0:zC) (x1:List Int) (s5:(List (List Int)) × Int):LH (R:=(List (List Int))) (zOj x0 x1 s5) [1,2,6] [] (fun s6 => [(5,L 1 lV s6.1),(7,I s6.2)]) (.xe 2 [] fun r6 => [(5,L 1 lV r6)]):=⟨⟩
instance (x0:zC) (x1:List Int):LH (R:=(List (List Int))) (zOl x0 x1) [1,2] [] (fun s5 => [(5,L 1 lV s5.1),(6,I s5.2)]) (.xe 0 [1,2] fun r8 => [(5,L 1 lV r8)]):=⟨⟩
instance t_C:FI Tryz.prog 148 (∀ (x0:zC) (x1:List Int),FnK Tryz.prog 148 [yR x0,T.ro (lV x1)] (fun r:(List (List Int)) => [lM r]) (fun _ => []) (f_C x0 x1)):=⟨Tryz.call148,fun x0 x1 => iF Tryz.func148⟩
instance (x0:List (List Int)) (x1:List (List Int)):LH (R:=Bool) (zOm x0 x1) [0,1] [] (fun s1 => [(5,I s1)]) (.xs (.xe 0 [0,1] fun _ => []) .xr):=⟨⟩
instance t_aw:FI Tryz.prog 95 (∀ (x0:List (List Int)) (x1:List (List Int)),FnK Tryz.prog 95 [T.ro (lM x0),T.ro (lM x1)] (fun r:Bool => [B r]) (fun _ => []) (zOn x0 x1)):=⟨Tryz.call95,fun x0 x1 => iF Tryz.func95⟩
instance (x0:SPr) (x1:zC):LH (R:=Bool) (zOo x0 x1) [2,3,5] [] (fun s1 => [(6,I s1)]) (.xs (.xe 0 [] fun _ => []) .xr):=⟨⟩
instance (x0:SPr) (x1:zC) (s11:Int):LH (R:=Bool) (zOp x0 x1 s11) [2,3,5,7] [] (fun s12 => [(8,L 1 lV s12.1),(9,I s12.2)]) (.xe 4 [] fun r12 => [(8,L 1 lV r12)]):=⟨⟩
instance (x0:SPr) (x1:zC) (s11:Int):LH (R:=Bool) (zOq x0 x1 s11) [2,3,5,7] [] (fun s14 => [(10,I s14)]) (.xs (.xe 6 [] fun _ => []) .xr):=⟨⟩
instance (x0:SPr) (x1:zC):LH (R:=Bool) (zOr x0 x1) [2,3,5] [] (fun s11 => [(7,I s11)]) (.xs (.xe 2 [2,3,5] fun _ => []) .xr):=⟨⟩
instance t_l:FI Tryz.prog 91 (∀ (x0:SPr) (x1:zC),FnK Tryz.prog 91 [qPr x0,yR x1] (fun r:Bool => [B r]) (fun _ => []) (f_l x0 x1)):=⟨Tryz.call91,fun x0 x1 => iF Tryz.func91⟩
instance t_aP:FI Tryz.prog 46 (∀ (x0:SPr) (x1:zC),FnK Tryz.prog 46 [qPr x0,yR x1] (fun r:Bool => [B r]) (fun _ => []) (zLU x0 x1)):=⟨Tryz.call46,fun x0 x1 => iF Tryz.func46⟩
instance (x0:zL):LH (R:=Bool) (zIP x0) [1] [] (fun s1 => [(3,I s1)]) (.xs (.xe 0 [1] fun _ => []) .xr):=⟨⟩
instance t_ah:FI Tryz.prog 47 (∀ (x0:zL),FnK Tryz.prog 47 [wR x0] (fun r:Bool => [B r]) (fun _ => []) (zQk x0)):=⟨Tryz.call47,fun x0 => iF Tryz.func47⟩
instance (x0:zC) (x1:zC) (x2:List (List Int)):LH (R:=Bool) (zIQ x0 x1 x2) [2,3,4] [] (fun s1 => [(7,I s1)]) (.xs (.xe 0 [2,3,4] fun _ => []) .xr):=⟨⟩
instance t_ay:FI Tryz.prog 48 (∀ (x0:zC) (x1:zC) (x2:List (List Int)),FnK Tryz.prog 48 [yR x0,yR x1,T.ro (lM x2)] (fun r:Bool => [B r]) (fun _ => []) (zRX x0 x1 x2)):=⟨Tryz.call48,fun x0 x1 x2 => iF Tryz.func48⟩
instance t_a6:FI Tryz.prog 71 (∀ (x0:SPr),FnK Tryz.prog 71 [qPr x0] (fun r:Int => [I r]) (fun _ => []) (zQd x0)):=⟨Tryz.call71,fun x0 => iF Tryz.func71⟩
instance (x0:zC) (x1:List (List Int)):LH (R:=Bool) (zIM x0 x1) [1,2] [] (fun s1 => [(5,I s1)]) (.xs (.xe 0 [1,2] fun _ => []) .xr):=⟨⟩
instance t_ax:FI Tryz.prog 150 (∀ (x0:zC) (x1:List (List Int)),FnK Tryz.prog 150 [yR x0,T.ro (lM x1)] (fun r:Bool => [B r]) (fun _ => []) (zRT x0 x1)):=⟨Tryz.call150,fun x0 x1 => iF Tryz.func150⟩
instance t_a3:FI Tryz.prog 96 (∀ (x0:SPr) (x1:zC) (x2:List (List Int)),FnK Tryz.prog 96 [qPr x0,yR x1,T.ro (lM x2)] (fun r:Bool => [B r]) (fun _ => []) (zOZ x0 x1 x2)):=⟨Tryz.call96,fun x0 x1 x2 => iF Tryz.func96⟩
instance t_aj:FI Tryz.prog 190 (∀ (x0:zO),FnK Tryz.prog 190 [yD x0] (fun r:zD => [yI r]) (fun _ => []) (zIN x0)):=⟨Tryz.call190,fun x0 => iF Tryz.func190⟩
instance t_bc:FI Tryz.prog 177 (∀ (x0:Int) (x1:Int) (x2:Int),FnK Tryz.prog 177 [I x0,I x1,I x2] (fun r:Int => [I r]) (fun _ => []) (zRS x0 x1 x2)):=⟨Tryz.call177,fun x0 x1 x2 => iF Tryz.func177⟩
instance t_O:FI Tryz.prog 192 (∀ (x0:zO) (x1:Int) (x2:Int),FnK Tryz.prog 192 [yD x0,I x1,I x2] (fun r:zD => [(fun x => T.agg [(Ro lV) x.x,(Ro lV) x.v]) r]) (fun _ => []) (f_O x0 x1 x2)):=⟨Tryz.call192,fun x0 x1 x2 => iF Tryz.func192⟩
end
end Go.Wk

namespace Go.Wk
open Go Go.Proofs Go.Ab
set_option maxRecDepth 100000
set_option maxHeartbeats 4000000
section
attribute [local irreducible] RW CW DK OkL Ok xG xH wW vM XS.post rng uJ vQ ixO yB wJ vF yP zJ GTo zN FnC FnK vT tE Kp Lk BsL BuL RpL Bk Lc
instance t_a5:FI Tryz.prog 132 (∀ (x0:Int) (x1:Int),FnK Tryz.prog 132 [I x0,I x1] (fun r:Int => [I r]) (fun _ => []) (zQc x0 x1)):=⟨Tryz.call132,fun x0 x1 => iF Tryz.func132⟩
instance (x0:Int) (x2:Int) (x3:List Int):LH (R:=(List Int)) (zOY x0 x2 x3) [0,2,3] [] (fun s1 => [(9,L 1 I s1.1),(10,I s1.2)]) (.xe 0 [0,2,3] fun r9 => [(9,L 1 I r9)]):=⟨⟩
instance t_K:FI Tryz.prog 72 (∀ (x0:Int) (x1:List Int) (x2:Int) (x3:List Int),FnK Tryz.prog 72 [I x0,T.ro (lV x1),I x2,T.ro (lV x3)] (fun r:(List Int) => [lV r]) (fun _ => []) (f_K x0 x1 x2 x3)):=⟨Tryz.call72,fun x0 x1 x2 x3 => iF Tryz.func72⟩
instance (x0:zC) (x1:List Int) (x2:Int):LH (R:=(List Int)) (zMg x0 x1 x2) [1,2,3] [] (fun s1 => [(7,L 1 I s1.1),(8,I s1.2)]) (.xe 0 [1,2,3] fun r7 => [(7,L 1 I r7)]):=⟨⟩
instance t_Y:FI Tryz.prog 207 (∀ (x0:zC) (x1:List Int) (x2:Int),FnK Tryz.prog 207 [yR x0,T.ro (lV x1),I x2] (fun r:(List Int) => [lV r]) (fun _ => []) (f_Y x0 x1 x2)):=⟨Tryz.call207,fun x0 x1 x2 => iF Tryz.func207⟩
instance t_ai:FI Tryz.prog 195 (∀ (x0:zO) (x1:Int),FnK Tryz.prog 195 [yD x0,I x1] (fun r:zD => [(fun x => T.agg [(Ro lV) x.x,(Ro lV) x.v]) r]) (fun _ => []) (zJR x0 x1)):=⟨Tryz.call195,fun x0 x1 => iF Tryz.func195⟩
instance:GHs Tryz.f194.results:=⟨⟩
instance:GH Tryz.f194.results 0 53 0 (.trq 40 7 [0,0]):=⟨⟩
instance (g_d:zO → Int → zD → zD → Option zD) (x0:zO) (x1:Int) (x2:zD) (s5:(List Int) × (List Int) × Int):LH (R:=zD) (zQf g_d x0 x1 x2 s5) [1,3,5,6,8] [] (fun s6 => [(7,T.ptr (T.agg [L 1 I s6.1,L 1 I s6.2.1])),(9,I s6.2.2)]) (.xe 2 [] fun r8 => [(7,T.ptr (T.agg [L 1 I r8.1,L 1 I r8.2]))]):=⟨⟩
instance (g_d:zO → Int → zD → zD → Option zD) (x0:zO) (x1:Int) (x2:zD):LH (R:=zD) (zPa g_d x0 x1 x2) [1,3,5,6] [] (fun s5 => [(7,T.ptr (T.agg [L 1 I s5.1,L 1 I s5.2.1])),(8,I s5.2.2)]) (.xe 0 [] fun r10 => [(7,T.ptr (T.agg [L 1 I r10.1,L 1 I r10.2]))]):=⟨⟩
theorem zUo {g_d:zO → Int → zD → zD → Option zD} [FI Tryz.prog 191 (∀ (x0:zO) (x1:Int) (x2:zD) (x3:zD),FnK Tryz.prog 191 [yD x0,I x1,zY x2,zY x3] (fun r:zD => [yI r]) (fun _ => []) (g_d x0 x1 x2 x3))]:∀ (x0:zO) (x1:Int) (x2:zD),FnK Tryz.prog 194 [yD x0,I x1,zY x2] (fun r:zD => [yI r]) (fun _ => []) (b_f g_d x0 x1 x2):=fun x0 x1 x2 => iF Tryz.func194
theorem zUp {g_d:zO → Int → zD → zD → Option zD} (H_d:∀ (x0:zO) (x1:Int) (x2:zD) (x3:zD) r,g_d x0 x1 x2 x3 = some r → FnC Tryz.prog 191 [yD x0,I x1,zY x2,zY x3] [yI r] []) (x0:zO) (x1:Int) (x2:zD) (r:zD) (h:b_f g_d x0 x1 x2 = some r):FnC Tryz.prog 194 [yD x0,I x1,zY x2] [yI r] []:=by
 have:FI Tryz.prog 191 (∀ (x0:zO) (x1:Int) (x2:zD) (x3:zD),FnK Tryz.prog 191 [yD x0,I x1,zY x2,zY x3] (fun r:zD => [yI r]) (fun _ => []) (g_d x0 x1 x2 x3)):=⟨Tryz.call191,fun x0 x1 x2 x3 => FnK.mk (H_d x0 x1 x2 x3)⟩
 exact (zUo x0 x1 x2).go h
end
theorem zUq {g_f:zO → Int → zD → Option zD} (H_f:∀ (x0:zO) (x1:Int) (x2:zD) r,g_f x0 x1 x2 = some r → FnC Tryz.prog 194 [yD x0,I x1,zY x2] [yI r] []) {g_d:zO → Int → zD → zD → Option zD} (H_d:∀ (x0:zO) (x1:Int) (x2:zD) (x3:zD) r,g_d x0 x1 x2 x3 = some r → FnC Tryz.prog 191 [yD x0,I x1,zY x2,zY x3] [yI r] []) (x0:zO) (x1:Int) (x2:zD) (x3:zD) (r:zD) (h:b_d g_f g_d x0 x1 x2 x3 = some r):FnC Tryz.prog 191 [yD x0,I x1,zY x2,zY x3] [yI r] []:=by
 refine fB Tryz.func191 (fun St W w0 v => ?_)
 refine sR (zDG ?_)
 refine zDG ?_
 refine zDG ?_
 refine vU ?_
 refine rN (CW.seq (sR (zX ?_)))
 refine zA6 ?_
 refine oP (zC6 fld_37_0 rfl rfl rfl rfl rfl rfl) ?_
 refine zBw ?_
 refine jY ?_
 refine zQ1 ?_
 refine rN (cn h (fun hc h => ?_) (fun hc h => ?_))
 refine CW.seq ?_
 obtain ⟨m1,hm1,h⟩:=bd h
 obtain ⟨r2,hr2,h⟩:=bd h
 refine CW.dk ?_
 refine zCb [(4,_)] ?_
 refine dG [(21,_),(4,_)] [([(22,some (T.addr 4 [0,0,0]))],[(22,0)])] ⟨rfl,rfl,trivial⟩ (fun E h => zU.opE (zC6 fld_37_0 h.1 h.2.1 rfl rfl rfl rfl) rfl) ?_
 refine zA7 [(22,_),(4,_)] ?_
 refine zNh [(23,_)] ?_
 refine dG [(24,_)] [([(25,some (L 1 I (List.replicate m1 (0:Int))))],[(25,0)])] ⟨rfl,trivial⟩ (fun E h => zU.opE (zAn (f:=I) (z:=0) elt_22 (rfl) hm1 h.1 h.1 rfl) rfl) ?_
 refine zCb [(4,_)] ?_
 refine dG [(26,_),(4,_)] [([(27,some (T.addr 4 [0,1,0]))],[(27,0)])] ⟨rfl,rfl,trivial⟩ (fun E h => zU.opE (zC6 fld_39_0 h.1 h.2.1 rfl rfl rfl rfl) rfl) ?_
 refine zA7 [(27,_),(4,_)] ?_
 refine zCb [(6,_)] ?_
 refine zA7 [(29,_),(6,_)] ?_
 refine zCb [(7,_)] ?_
 refine zA7 [(31,_),(7,_)] ?_
 refine dC [(28,_),(30,_),(32,_)] Tryz.call72 (FnK.go (t_K.h _ _ _ _) hr2) ?_
 refine dG [(25,_),(33,_)] [([(34,some (T.agg [L 1 I (List.replicate m1 (0:Int)),L 1 I r2])),(25,some (T.same 34 [0])),(33,some (T.same 34 [1]))],[(34,0),(25,1),(33,1)])] ⟨rfl,rfl,trivial⟩ (fun E h => zU.opE (jQ bld_197 [(0,.tmp 25),(1,.tmp 33)] [(0,.slot 25 (L 1 I (List.replicate m1 (0:Int)))),(1,.slot 33 (L 1 I r2))] [.slot 25 (L 1 I (List.replicate m1 (0:Int))),.slot 33 (L 1 I r2)] (pkS h.1 (zF (zM (Enc.clean (f:=I)))) rfl (pkS h.2.1 (zF (zM (Enc.clean (f:=I)))) rfl pkN)) (bqC (.slot _ _) (bqC (.slot _ _) bqN)) rfl) rfl) ?_
 refine dG [(8,_),(34,_)] [([(8,some (T.ptr (T.agg [L 1 I (List.replicate m1 (0:Int)),L 1 I r2]))),(34,some (T.agg [T.same 8 [0,0],T.same 8 [1,0]]))],[(8,1),(34,1)])] ⟨rfl,rfl,trivial⟩ (fun E h => zU.opE (vP vJ rfl (wQ h.1 rfl) h.1 rfl rfl h.2.1 (zF (xL ⟨(zM (Enc.clean (f:=I))),(zM (Enc.clean (f:=I))),trivial⟩)) rfl) rfl) ?_
 refine dNA wG ?_
 refine nA (CW.ret (rA ?_))
 obtain rfl:=sI h
 exact ⟨_,zN.refl,⟨.inl rfl,[(8,[0],T.agg [L 1 I (List.replicate m1 (0:Int)),L 1 I r2])],⟨⟨rfl,rfl,rfl,(var_197.h _ rfl rfl).h⟩,trivial⟩,rfl,(by simp),(by simp),trivial⟩⟩
 refine CW.skip (nA (CW.seq ?_))
 obtain ⟨r3,hr3,h⟩:=bd h
 obtain ⟨r4,hr4,h⟩:=bd h
 refine CW.dk ?_
 refine zCb [(6,_)] ?_
 refine zA7 [(35,_),(6,_)] ?_
 refine dC [(36,_)] Tryz.call131 (FnK.go (t_u.h _) hr3) ?_
 refine zCb [(6,_)] ?_
 refine zA7 [(38,_),(6,_)] ?_
 refine dG [(37,_),(39,_)] [([(40,some (T.agg [L 1 I r3,T.ro (lV x2.v)])),(37,some (T.same 40 [0]))],[(40,0),(37,1)])] ⟨rfl,rfl,trivial⟩ (fun E h => zU.opE (jQ bld_197 [(0,.tmp 37),(1,.tmp 39)] [(0,.slot 37 (L 1 I r3)),(1,.slot 39 (T.ro (lV x2.v)))] [.slot 37 (L 1 I r3),.slot 39 (T.ro (lV x2.v))] (pkS h.1 (zF (zM (Enc.clean (f:=I)))) rfl (pkS h.2.1 (zF trivial) rfl pkN)) (bqC (.slot _ _) (bqC (.slot _ _) bqN)) rfl) rfl) ?_
 refine zCb [(7,_)] ?_
 refine zA7 [(41,_),(7,_)] ?_
 refine dC [(42,_)] Tryz.call131 (FnK.go (t_u.h _) hr4) ?_
 refine zCb [(7,_)] ?_
 refine zA7 [(44,_),(7,_)] ?_
 refine dG [(43,_),(45,_)] [([(46,some (T.agg [L 1 I r4,T.ro (lV x3.v)])),(43,some (T.same 46 [0]))],[(46,0),(43,1)])] ⟨rfl,rfl,trivial⟩ (fun E h => zU.opE (jQ bld_197 [(0,.tmp 43),(1,.tmp 45)] [(0,.slot 43 (L 1 I r4)),(1,.slot 45 (T.ro (lV x3.v)))] [.slot 43 (L 1 I r4),.slot 45 (T.ro (lV x3.v))] (pkS h.1 (zF (zM (Enc.clean (f:=I)))) rfl (pkS h.2.1 (zF trivial) rfl pkN)) (bqC (.slot _ _) (bqC (.slot _ _) bqN)) rfl) rfl) ?_
 refine zBl [] ?_
 refine zBl [] ?_
 refine dG [(9,_),(40,_)] [([(9,some (T.ptr (T.agg [L 1 I r3,T.ro (lV x2.v)]))),(40,some (T.agg [T.same 9 [0,0],T.ro (lV x2.v)]))],[(9,1),(40,1)])] ⟨rfl,rfl,trivial⟩ (fun E h => zU.opE (vP vJ rfl (wQ h.1 rfl) h.1 rfl rfl h.2.1 (zF (xL ⟨(zM (Enc.clean (f:=I))),trivial,trivial⟩)) rfl) rfl) ?_
 refine dG [(10,_),(46,_)] [([(10,some (T.ptr (T.agg [L 1 I r4,T.ro (lV x3.v)]))),(46,some (T.agg [T.same 10 [0,0],T.ro (lV x3.v)]))],[(10,1),(46,1)])] ⟨rfl,rfl,trivial⟩ (fun E h => zU.opE (vP vJ rfl (wQ h.1 rfl) h.1 rfl rfl h.2.1 (zF (xL ⟨(zM (Enc.clean (f:=I))),trivial,trivial⟩)) rfl) rfl) ?_
 refine dNA wG ?_
 refine nA (CW.seq (CW.to [(1,I x1),(4,T.ptr (yD x0)),(6,T.ptr (zY x2)),(7,T.ptr (zY x3)),(8,T.ptr (T.agg [L 1 I [],L 1 I []])),(9,T.ptr (T.agg [L 1 I r3,T.ro (lV x2.v)])),(10,T.ptr (T.agg [L 1 I r4,T.ro (lV x3.v)]))] ⟨rfl,rfl,rfl,rfl,rfl,rfl,rfl,trivial⟩ ?_))
 refine CW.region (zA6 ?_)
 refine zBw ?_
 refine zX ?_
 obtain ⟨v5,hv5,h⟩:=bd h
 refine zL3 ?_
 refine oP (zGH zF6 rfl rfl rfl (yZ (xC rfl (zP hv5 rfl))) (kP (zGF rfl (zAk hv5 rfl))) rfl rfl) ?_
 refine rN (sR (zA6 ?_))
 refine zBw ?_
 refine zX ?_
 obtain ⟨v6,hv6,h⟩:=bd h
 refine zL3 ?_
 refine oP (zGH zF6 rfl rfl rfl (yZ (xC rfl (zP hv6 rfl))) (kP (zGF rfl (zAk hv6 rfl))) rfl rfl) ?_
 refine rN (CW.seq (sR (yM ?_)))
 refine rN (CW.block (CW.ghost (zN.frzI 1 9 _ (t':=T.agg [T.ro (lV (r3.set x1.toNat 0)),T.ro (lV x2.v)]) rfl (fzA (fzC (fzO inferInstance) (fzC rfl fzN)))) ?_))
 obtain ⟨r10,hr10,h⟩:=bd h
 refine CW.lp (s:=(r3.set x1.toNat 0,x2.v,0)) (zMh g_f x0 x1 x3) (fun s1:(List Int) × (List Int) × Int => wB [(1,I x1),(4,T.ptr (yD x0)),(6,T.ptr (zY x2)),(7,T.ptr (zY x3)),(8,T.ptr (T.agg [L 1 I [],L 1 I []])),(9,T.ptr (T.agg [T.ro (lV s1.1),T.ro (lV s1.2.1)])),(10,T.ptr (T.agg [L 1 I (r4.set x1.toNat 0),T.ro (lV x3.v)])),(11,I s1.2.2)]) (fun (r10:((List Int) × (List Int))) e E => e = .exit 0 ∧ zN ⟨St,W,w0,Tryz.f191.ntmps⟩ E (wB [(1,I x1),(4,T.ptr (yD x0)),(6,T.ptr (zY x2)),(7,T.ptr (zY x3)),(8,T.ptr (T.agg [L 1 I [],L 1 I []])),(9,T.ptr (T.agg [T.ro (lV r10.1),T.ro (lV r10.2)])),(10,T.ptr (T.agg [L 1 I (r4.set x1.toNat 0),T.ro (lV x3.v)]))])) (.has ⟨rfl,rfl,rfl,rfl,rfl,rfl,rfl,rfl,trivial⟩) (fun s1 x h => ?_) hr10 (fun e E hq => ?_)
 refine CW.seq (sR (zX ?_))
 refine zA6 ?_
 refine zBw ?_
 refine zX ?_
 obtain ⟨v7,hv7,h⟩:=bd h
 refine zBA ?_
 refine qB ?_
 refine vZ ?_
 refine rN (cn h (fun hc h => ?_) (fun hc h => ?_))
 refine CW.skip (nA (CW.seq (CW.block (CW.region (vL ?_)))))
 refine zX ?_
 refine vL ?_
 obtain ⟨r8,hr8,h⟩:=bd h
 refine cA Tryz.call194 (H_f _ _ _ _ hr8) ?_
 refine oP (vP vJ rfl (wQ rfl rfl) rfl rfl rfl rfl (zF (xL ⟨(zM (Enc.clean (f:=I))),(zM (Enc.clean (f:=I))),trivial⟩)) rfl) ?_
 refine RW.nil ?_
 refine nB (nA (CW.region (zX ?_)))
 obtain ⟨v9,hv9,h⟩:=bd h
 refine tY ?_
 refine yM ?_
 refine RW.ghost (zN.frzI 1 9 _ (t':=zY r8) rfl (fzA (fzC (fzO inferInstance) (fzC (fzO inferInstance) fzN)))) ?_
 refine RW.nil ?_
 exact eN h
 refine CW.exit (xA ?_)
 exact eX h
 obtain ⟨rfl,hg⟩:=hq
 refine xB ?_
 refine nA (CW.ghost hg ?_)
 refine sR (vL ?_)
 refine zX ?_
 obtain ⟨v11,hv11,h⟩:=bd h
 refine oP (zAI hv11 rfl rfl rfl) ?_
 refine vL ?_
 refine vL ?_
 obtain ⟨r12,hr12,h⟩:=bd h
 refine oP (yJ (xs:=[.tmp 68,.tmp 70,.tmp 71,.tmp 72]) Tryz.call191 (H_d _ _ _ _ _ hr12) ⟨(agC _ rfl rfl rfl),⟨(agC _ rfl rfl rfl),⟨(agC _ rfl rfl rfl),⟨(agC _ rfl (tJ (xD (tD rfl rfl inferInstance) (xD rfl tK))) rfl),trivial⟩⟩⟩⟩ (wF (f:=yI) inferInstance wK) rfl) ?_
 refine vU ?_
 refine oP (vP vJ rfl (wQ rfl rfl) rfl rfl rfl rfl (zF (xL ⟨(zM (Enc.clean (f:=I))),(zM (Enc.clean (f:=I))),trivial⟩)) rfl) ?_
 refine rN (CW.seq ?_)
 obtain ⟨v13,hv13,h⟩:=bd h
 obtain ⟨v14,hv14,h⟩:=bd h
 obtain ⟨v15,hv15,h⟩:=bd h
 refine CW.dk ?_
 refine zCb [(6,_)] ?_
 refine zA7 [(74,_),(6,_)] ?_
 refine xP [(1,_)] ?_
 refine zKA [(75,_),(76,_)] ?_
 refine zA0 [(77,_)] ?_
 refine zCb [(7,_)] ?_
 refine zA7 [(79,_),(7,_)] ?_
 refine xP [(1,_)] ?_
 refine zKA [(80,_),(81,_)] ?_
 refine zA0 [(82,_)] ?_
 refine zKB [(78,_),(83,_)] ?_
 refine zDh [(84,_)] ?_
 refine dNA wG ?_
 refine nA (CW.seq (sR (zX ?_)))
 refine zA6 ?_
 refine oP (zC6 fld_37_0 rfl rfl rfl rfl rfl rfl) ?_
 refine zBw ?_
 refine zX ?_
 obtain ⟨v16,hv16,h⟩:=bd h
 refine oP (zKv (f:=I) row_22 hv16 (wQ rfl rfl) rfl rfl) ?_
 refine qB ?_
 refine zQ1 ?_
 refine rN (cn h (fun hc h => ?_) (fun hc h => ?_))
 refine CW.seq (CW.to [(1,I x1),(4,T.ptr (yD x0)),(8,T.ptr (T.agg [L 1 I [],L 1 I []])),(12,T.ptr (yI r12)),(13,I v15)] ⟨rfl,rfl,rfl,rfl,rfl,trivial⟩ ?_)
 refine CW.region (zX ?_)
 refine zA6 ?_
 refine oP (zC6 fld_37_0 rfl rfl rfl rfl rfl rfl) ?_
 refine zBw ?_
 refine zX ?_
 obtain ⟨v17,hv17,h⟩:=bd h
 refine oP (zKv (f:=I) row_22 hv17 (wQ rfl rfl) rfl rfl) ?_
 refine qB ?_
 obtain ⟨v18,hv18,h⟩:=bd h
 refine zNd ?_
 refine yM ?_
 refine rN ?_
 obtain ⟨v19,hv19,h⟩:=bd h
 obtain ⟨r20,hr20,h⟩:=bd h
 obtain ⟨r21,hr21,h⟩:=bd h
 refine CW.dk ?_
 refine xR [(4,_)] ?_
 refine xP [(1,_)] ?_
 refine dG [(102,_)] [([(103,some (I v19))],[(103,0)])] ⟨rfl,trivial⟩ (fun E h => zU.opE (zAI hv19 h.1 rfl rfl) rfl) ?_
 refine xR [(4,_)] ?_
 refine xP [(1,_)] ?_
 refine dG [(104,_),(105,_)] [([(106,some (zY r20))],[(106,0)])] ⟨rfl,rfl,trivial⟩ (fun E h => zU.opE (qP (xs:=[.tmp 104,.tmp 105]) Tryz.call195 (FnK.go (t_ai.h _ _) hr20) (afC h.1 rfl (afC h.2.1 rfl afN)) rfl ⟨(xL ⟨trivial,trivial,trivial⟩),trivial⟩ rfl rfl) rfl) ?_
 refine xR [(12,_)] ?_
 refine dG [(101,_),(103,_),(106,_),(107,_),(12,_)] [([(108,some (yI r21))],[(108,0)])] ⟨rfl,rfl,rfl,rfl,rfl,trivial⟩ (fun E h => zU.opE (yJ (xs:=[.tmp 101,.tmp 103,.tmp 106,.tmp 107]) Tryz.call191 (H_d _ _ _ _ _ hr21) ⟨(agC _ h.1 rfl rfl),⟨(agC _ h.2.1 rfl rfl),⟨(agC _ h.2.2.1 rfl rfl),⟨(agC _ h.2.2.2.1 (tJ (xD (tD h.2.2.2.2.1 rfl inferInstance) (xD (tD h.2.2.2.2.1 rfl inferInstance) tK))) rfl),trivial⟩⟩⟩⟩ (wF (f:=yI) inferInstance wK) rfl) rfl) ?_
 refine dG [(12,_),(108,_)] [([(12,some (T.ptr (yI r21))),(108,some (T.agg [T.same 12 [0,0],T.same 12 [1,0]]))],[(12,1),(108,1)])] ⟨rfl,rfl,trivial⟩ (fun E h => zU.opE (vP vJ rfl (wQ h.1 rfl) h.1 rfl rfl h.2.1 (zF (xL ⟨(zM (Enc.clean (f:=I))),(zM (Enc.clean (f:=I))),trivial⟩)) rfl) rfl) ?_
 refine dNA wG ?_
 refine nA (sR (zA6 ?_))
 refine zBw ?_
 obtain ⟨r22,hr22,h⟩:=bd h
 refine cA Tryz.call131 (FnK.go (t_u.h _) hr22) ?_
 refine yM ?_
 refine RW.ghost (zN.tr 14 111 _ rfl rfl (zF (zM (Enc.clean (f:=I)))) rfl) ?_
 refine rN (sR (zX ?_))
 refine zX ?_
 refine zX ?_
 obtain ⟨v23,hv23,h⟩:=bd h
 refine zL3 ?_
 refine oP (zGG zF6 rfl rfl rfl (zP hv23 rfl) (zAk hv23 rfl) rfl (zF (Enc.clean (f:=I) _)) rfl) ?_
 refine rN (CW.seq (CW.to [(8,T.ptr (T.agg [L 1 I [],L 1 I []])),(12,T.ptr (yI r21)),(14,L 1 I (r22.set x1.toNat v18))] ⟨rfl,rfl,rfl,trivial⟩ ?_))
 refine CW.region (zX ?_)
 refine zA6 ?_
 refine zBw ?_
 refine RW.ghost (zN.tr 116 14 _ rfl rfl (zF (zM (Enc.clean (f:=I)))) rfl) ?_
 refine RW.ghost (zN.trq 118 12 [1,0] rfl rfl rfl (zF (zM (Enc.clean (f:=I)))) rfl) ?_
 refine oP (jQ bld_197 [(0,.tmp 116),(1,.tmp 118)] [(0,.slot 116 (L 1 I (r22.set x1.toNat v18))),(1,.slot 118 (L 1 I r21.v))] [.slot 116 (L 1 I (r22.set x1.toNat v18)),.slot 118 (L 1 I r21.v)] (pkS rfl (zF (zM (Enc.clean (f:=I)))) rfl (pkS rfl (zF (zM (Enc.clean (f:=I)))) rfl pkN)) (bqC (.slot _ _) (bqC (.slot _ _) bqN)) rfl) ?_
 refine oP (vP vJ rfl (wQ rfl rfl) rfl rfl rfl rfl (zF (xL ⟨(zM (Enc.clean (f:=I))),(zM (Enc.clean (f:=I))),trivial⟩)) rfl) ?_
 refine rN (CW.ret ?_)
 obtain rfl:=sI h
 exact ⟨_,zN.refl,⟨.inl rfl,[(8,[0],T.agg [L 1 I (r22.set x1.toNat v18),L 1 I r21.v])],⟨⟨rfl,rfl,rfl,(var_197.h _ rfl rfl).h⟩,trivial⟩,rfl,(by simp),(by simp),trivial⟩⟩
 refine CW.skip (nA (CW.seq (CW.to [(1,I x1),(8,T.ptr (T.agg [L 1 I [],L 1 I []])),(12,T.ptr (yI r12)),(13,I v15)] ⟨rfl,rfl,rfl,rfl,trivial⟩ ?_)))
 refine CW.region (zA6 ?_)
 refine zBw ?_
 obtain ⟨r24,hr24,h⟩:=bd h
 refine cA Tryz.call131 (FnK.go (t_u.h _) hr24) ?_
 refine yM ?_
 refine RW.ghost (zN.tr 14 111 _ rfl rfl (zF (zM (Enc.clean (f:=I)))) rfl) ?_
 refine rN (sR (zX ?_))
 refine zX ?_
 refine zX ?_
 obtain ⟨v25,hv25,h⟩:=bd h
 refine zL3 ?_
 refine oP (zGG zF6 rfl rfl rfl (zP hv25 rfl) (zAk hv25 rfl) rfl (zF (Enc.clean (f:=I) _)) rfl) ?_
 refine rN (sR (zX ?_))
 refine zA6 ?_
 refine zBw ?_
 refine RW.ghost (zN.tr 116 14 _ rfl rfl (zF (zM (Enc.clean (f:=I)))) rfl) ?_
 refine RW.ghost (zN.trq 118 12 [1,0] rfl rfl rfl (zF (zM (Enc.clean (f:=I)))) rfl) ?_
 refine oP (jQ bld_197 [(0,.tmp 116),(1,.tmp 118)] [(0,.slot 116 (L 1 I (r24.set x1.toNat v15))),(1,.slot 118 (L 1 I r12.v))] [.slot 116 (L 1 I (r24.set x1.toNat v15)),.slot 118 (L 1 I r12.v)] (pkS rfl (zF (zM (Enc.clean (f:=I)))) rfl (pkS rfl (zF (zM (Enc.clean (f:=I)))) rfl pkN)) (bqC (.slot _ _) (bqC (.slot _ _) bqN)) rfl) ?_
 refine oP (vP vJ rfl (wQ rfl rfl) rfl rfl rfl rfl (zF (xL ⟨(zM (Enc.clean (f:=I))),(zM (Enc.clean (f:=I))),trivial⟩)) rfl) ?_
 refine rN (CW.ret ?_)
 obtain rfl:=sI h
 exact ⟨_,zN.refl,⟨.inl rfl,[(8,[0],T.agg [L 1 I (r24.set x1.toNat v15),L 1 I r12.v])],⟨⟨rfl,rfl,rfl,(var_197.h _ rfl rfl).h⟩,trivial⟩,rfl,(by simp),(by simp),trivial⟩⟩
theorem zTF:∀ n,(∀ (x0:zO) (x1:Int) (x2:zD) r,zJS n x0 x1 x2 = some r → FnC Tryz.prog 194 [yD x0,I x1,zY x2] [yI r] []) ∧ (∀ (x0:zO) (x1:Int) (x2:zD) (x3:zD) r,zJT n x0 x1 x2 x3 = some r → FnC Tryz.prog 191 [yD x0,I x1,zY x2,zY x3] [yI r] []):=by
  intro n
  induction n with
  | zero => exact ⟨(fun _ _ _ r h => by simp [zJS] at h),(fun _ _ _ _ r h => by simp [zJT] at h)⟩
  | succ n ih => exact ⟨(fun x0 x1 x2 r h => zUp ih.2 x0 x1 x2 r (by simpa [zJS] using h)),(fun x0 x1 x2 x3 r h => zUq ih.1 ih.2 x0 x1 x2 x3 r (by simpa [zJT] using h))⟩
theorem u_f (x0:zO) (x1:Int) (x2:zD) (r:zD) (h:f_f x0 x1 x2 = some r):FnC Tryz.prog 194 [yD x0,I x1,zY x2] [yI r] []:=by
 obtain ⟨n,hn⟩:=sO h
 exact (zTF n).1 x0 x1 x2 r hn
theorem u_d (x0:zO) (x1:Int) (x2:zD) (x3:zD) (r:zD) (h:f_d x0 x1 x2 x3 = some r):FnC Tryz.prog 191 [yD x0,I x1,zY x2,zY x3] [yI r] []:=by
 obtain ⟨n,hn⟩:=sO h
 exact (zTF n).2 x0 x1 x2 x3 r hn
instance t_f:FI Tryz.prog 194 (∀ (x0:zO) (x1:Int) (x2:zD),FnK Tryz.prog 194 [yD x0,I x1,zY x2] (fun r:zD => [yI r]) (fun _ => []) (f_f x0 x1 x2)):=⟨Tryz.call194,fun x0 x1 x2 => FnK.mk (u_f x0 x1 x2)⟩
instance t_d:FI Tryz.prog 191 (∀ (x0:zO) (x1:Int) (x2:zD) (x3:zD),FnK Tryz.prog 191 [yD x0,I x1,zY x2,zY x3] (fun r:zD => [yI r]) (fun _ => []) (f_d x0 x1 x2 x3)):=⟨Tryz.call191,fun x0 x1 x2 x3 => FnK.mk (u_d x0 x1 x2 x3)⟩
section
attribute [local irreducible] RW CW DK OkL Ok xG xH wW vM XS.post rng uJ vQ ixO yB wJ vF yP zJ GTo zN FnC FnK vT tE Kp Lk BsL BuL RpL Bk Lc
instance t_Q:FI Tryz.prog 193 (∀ (x0:zO) (x1:zD) (x2:zD),FnK Tryz.prog 193 [yD x0,zY x1,zY x2] (fun r:(List Int) => [lV r]) (fun _ => []) (f_Q x0 x1 x2)):=⟨Tryz.call193,fun x0 x1 x2 => iF Tryz.func193⟩
end
theorem u_h (x0:zO) (x1:Int) (r:(List (List Int))) (h:f_h x0 x1 = some r):FnC Tryz.prog 162 [yD x0,I x1] [lM r] []:=by
 refine fB Tryz.func162 (fun St W w0 v => ?_)
 refine sR (zDG ?_)
 refine oP (zEC 1 rfl) ?_
 refine rN (sR (zA6 ?_))
 refine oP (zC6 fld_37_0 rfl rfl rfl rfl rfl rfl) ?_
 refine zBw ?_
 refine jY ?_
 refine yM ?_
 refine rN (sR (oP (zMQ elt_23 rfl) ?_))
 refine yM ?_
 refine RW.ghost (zN.tr 6 23 _ rfl rfl (zF trivial) rfl) ?_
 refine rN (CW.seq (sR (zX ?_)))
 obtain ⟨v1,hv1,h⟩:=bd h
 refine tY ?_
 refine yM ?_
 refine rN (CW.block ?_)
 obtain ⟨r27,hr27,h⟩:=bd h
 refine CW.lp (s:=([],v1)) (zPb x0 x1) (fun s9:(List (List Int)) × Int => wB [(1,I x1),(2,T.ptr (yD x0)),(5,I (x0.p.zA.length:Int)),(6,L 1 lV s9.1),(7,I s9.2)]) (fun (r27:(List (List Int))) e E => e = .exit 0 ∧ zN ⟨St,W,w0,Tryz.f162.ntmps⟩ E (wB [(1,I x1),(2,T.ptr (yD x0)),(5,I (x0.p.zA.length:Int)),(6,L 1 lV r27)])) (.has ⟨rfl,rfl,rfl,rfl,rfl,trivial⟩) (fun s9 x h => ?_) hr27 (fun e E hq => ?_)
 refine CW.seq (sR (zX ?_))
 refine zX ?_
 refine vZ ?_
 refine rN (cn h (fun hc h => ?_) (fun hc h => ?_))
 refine CW.skip (nA (CW.seq (CW.block (sR (vL ?_)))))
 obtain ⟨r2,hr2,h⟩:=bd h
 refine cA Tryz.call190 (FnK.go (t_aj.h _) hr2) ?_
 refine vU ?_
 refine oP (vP vJ rfl (wQ rfl rfl) rfl rfl rfl rfl (zF (xL ⟨(zM (Enc.clean (f:=I))),(zM (Enc.clean (f:=I))),trivial⟩)) rfl) ?_
 refine rN (CW.seq (sR (yM ?_)))
 refine rN (CW.block ?_)
 obtain ⟨r8,hr8,h⟩:=bd h
 refine CW.lp (s:=(r2.x,r2.v,0)) (zMi x0 x1 s9) (fun s10:(List Int) × (List Int) × Int => wB [(1,I x1),(2,T.ptr (yD x0)),(5,I (x0.p.zA.length:Int)),(6,L 1 lV s9.1),(7,I s9.2),(8,T.ptr (T.agg [L 1 I s10.1,L 1 I s10.2.1])),(9,I s10.2.2)]) (fun (r8:((List Int) × (List Int))) e E => e = .exit 2 ∧ zN ⟨St,W,w0,Tryz.f162.ntmps⟩ E (wB [(1,I x1),(2,T.ptr (yD x0)),(5,I (x0.p.zA.length:Int)),(6,L 1 lV s9.1),(7,I s9.2),(8,T.ptr (T.agg [L 1 I r8.1,L 1 I r8.2]))])) (.has ⟨rfl,rfl,rfl,rfl,rfl,rfl,rfl,trivial⟩) (fun s10 x h => ?_) hr8 (fun e E hq => ?_)
 refine CW.seq (sR (zX ?_))
 refine zA6 ?_
 refine oP (zC6 fld_37_0 rfl rfl rfl rfl rfl rfl) ?_
 refine zBw ?_
 refine zX ?_
 obtain ⟨v3,hv3,h⟩:=bd h
 refine zBA ?_
 refine qB ?_
 refine vZ ?_
 refine rN (cn h (fun hc h => ?_) (fun hc h => ?_))
 refine CW.skip (nA (CW.seq (CW.block ?_)))
 obtain ⟨v4,hv4,h⟩:=bd h
 obtain ⟨r5,hr5,h⟩:=bd h
 obtain ⟨r6,hr6,h⟩:=bd h
 refine CW.dk ?_
 refine xR [(2,_)] ?_
 refine xP [(1,_)] ?_
 refine zKB [(44,_)] ?_
 refine xR [(8,_)] ?_
 refine xR [(2,_)] ?_
 refine xP [(1,_)] ?_
 refine xP [(7,_)] ?_
 refine dG [(47,_),(48,_),(49,_)] [([(50,some (zY r5))],[(50,0)])] ⟨rfl,rfl,rfl,trivial⟩ (fun E h => zU.opE (qP (xs:=[.tmp 47,.tmp 48,.tmp 49]) Tryz.call192 (FnK.go (t_O.h _ _ _) hr5) (afC h.1 rfl (afC h.2.1 rfl (afC h.2.2.1 rfl afN))) rfl ⟨(xL ⟨trivial,trivial,trivial⟩),trivial⟩ rfl rfl) rfl) ?_
 refine dG [(43,_),(45,_),(46,_),(8,_),(50,_)] [([(51,some (yI r6))],[(51,0)])] ⟨rfl,rfl,rfl,rfl,rfl,trivial⟩ (fun E h => zU.opE (yJ (xs:=[.tmp 43,.tmp 45,.tmp 46,.tmp 50]) Tryz.call191 (FnK.go (t_d.h _ _ _ _) hr6) ⟨(agC _ h.1 rfl rfl),⟨(agC _ h.2.1 rfl rfl),⟨(agC _ h.2.2.1 (tJ (xD (tD h.2.2.2.1 rfl inferInstance) (xD (tD h.2.2.2.1 rfl inferInstance) tK))) rfl),⟨(agC _ h.2.2.2.2.1 rfl rfl),trivial⟩⟩⟩⟩ (wF (f:=yI) inferInstance wK) rfl) rfl) ?_
 refine dG [(8,_),(51,_)] [([(8,some (T.ptr (yI r6))),(51,some (T.agg [T.same 8 [0,0],T.same 8 [1,0]]))],[(8,1),(51,1)])] ⟨rfl,rfl,trivial⟩ (fun E h => zU.opE (vP vJ rfl (wQ h.1 rfl) h.1 rfl rfl h.2.1 (zF (xL ⟨(zM (Enc.clean (f:=I))),(zM (Enc.clean (f:=I))),trivial⟩)) rfl) rfl) ?_
 refine dNA wG ?_
 refine nB (nA (CW.region (zX ?_)))
 obtain ⟨v7,hv7,h⟩:=bd h
 refine tY ?_
 refine yM ?_
 refine RW.nil ?_
 exact eN h
 refine CW.exit (xA ?_)
 exact eX h
 obtain ⟨rfl,hg⟩:=hq
 refine xB ?_
 refine nA (CW.ghost hg ?_)
 refine CW.seq ?_
 obtain ⟨r9,hr9,h⟩:=bd h
 obtain ⟨r10,hr10,h⟩:=bd h
 obtain ⟨r11,hr11,h⟩:=bd h
 obtain ⟨v12,hv12,h⟩:=bd h
 refine CW.dk ?_
 refine xP [(6,_)] ?_
 refine xR [(2,_)] ?_
 refine xR [(8,_)] ?_
 refine xR [(2,_)] ?_
 refine xP [(1,_)] ?_
 refine xR [(2,_)] ?_
 refine xP [(7,_)] ?_
 refine dG [(57,_),(58,_)] [([(59,some (zY r9))],[(59,0)])] ⟨rfl,rfl,trivial⟩ (fun E h => zU.opE (qP (xs:=[.tmp 57,.tmp 58]) Tryz.call195 (FnK.go (t_ai.h _ _) hr9) (afC h.1 rfl (afC h.2.1 rfl afN)) rfl ⟨(xL ⟨trivial,trivial,trivial⟩),trivial⟩ rfl rfl) rfl) ?_
 refine dC [(55,_),(56,_),(59,_)] Tryz.call194 (FnK.go (t_f.h _ _ _) hr10) ?_
 refine dG [(53,_),(54,_),(8,_),(60,_)] [([(61,some (L 1 I r11))],[(61,0)])] ⟨rfl,rfl,rfl,rfl,trivial⟩ (fun E h => zU.opE (yJ (xs:=[.tmp 53,.tmp 54,.tmp 60]) Tryz.call193 (FnK.go (t_Q.h _ _ _) hr11) ⟨(agC _ h.1 rfl rfl),⟨(agC _ h.2.1 (tJ (xD (tD h.2.2.1 rfl inferInstance) (xD (tD h.2.2.1 rfl inferInstance) tK))) rfl),⟨(agC _ h.2.2.2.1 (tJ (xD (uS inferInstance) (xD (uS inferInstance) tK))) rfl),trivial⟩⟩⟩ (wF (f:=lV) inferInstance wK) rfl) rfl) ?_
 refine dG [(61,_)] [([(62,some (L 1 lV [r11])),(61,some (T.same 62 [0]))],[(62,0),(61,1)])] ⟨rfl,trivial⟩ (fun E h => zU.opE (zDg elt_23 [.tmp 61] [.slot 61 (L 1 I r11)] [r11] lV ⟨.slot _ _,trivial⟩ (pkS h.1 (zF (zM (Enc.clean (f:=I)))) rfl pkN) rfl rfl) rfl) ?_
 refine dG [(52,T.same 6 []),(6,L 1 lV s9.1),(62,L 1 lV [r11])] [([(52,some (L 1 lV s9.1)),(6,some (T.same 52 []))],[(52,1),(6,1)]),([(63,some (L 1 lV v12)),(52,some T.any),(62,some T.any)],[(63,0),(52,1),(62,1)])] ⟨rfl,rfl,rfl,trivial⟩ (fun E h => zU.gh (zN.tr 52 6 _ h.1 h.2.1 (zF (zM (Enc.clean (f:=lV)))) rfl) <| zU.opE (zAj (f:=lV) elt_23 hv12 rfl (zB6 h.2.2.1) rfl) rfl) ?_
 refine zDh [(63,_)] ?_
 refine dNA wG ?_
 refine nA (CW.ghost (zN.tr 6 63 _ rfl rfl (zF (zM (Enc.clean (f:=lV)))) rfl) ?_)
 refine sR (zX ?_)
 obtain ⟨v13,hv13,h⟩:=bd h
 refine tY ?_
 refine yM ?_
 refine rN (CW.block ?_)
 obtain ⟨r25,hr25,h⟩:=bd h
 refine CW.lp (s:=(v12,v13)) (zMj x0 x1 s9) (fun s12:(List (List Int)) × Int => wB [(1,I x1),(2,T.ptr (yD x0)),(5,I (x0.p.zA.length:Int)),(6,L 1 lV s12.1),(7,I s9.2),(10,I s12.2)]) (fun (r25:(List (List Int))) e E => e = .exit 4 ∧ zN ⟨St,W,w0,Tryz.f162.ntmps⟩ E (wB [(1,I x1),(2,T.ptr (yD x0)),(5,I (x0.p.zA.length:Int)),(6,L 1 lV r25),(7,I s9.2)])) (.has ⟨rfl,rfl,rfl,rfl,rfl,rfl,trivial⟩) (fun s12 x h => ?_) hr25 (fun e E hq => ?_)
 refine CW.seq (sR (zX ?_))
 refine zX ?_
 refine vZ ?_
 refine rN (cn h (fun hc h => ?_) (fun hc h => ?_))
 refine CW.skip (nA (CW.seq (CW.block (CW.seq ?_))))
 obtain ⟨r14,hr14,h⟩:=bd h
 obtain ⟨r15,hr15,h⟩:=bd h
 refine CW.dk ?_
 refine xR [(2,_)] ?_
 refine xP [(1,_)] ?_
 refine xP [(7,_)] ?_
 refine dG [(71,_),(72,_),(73,_)] [([(74,some (zY r14))],[(74,0)])] ⟨rfl,rfl,rfl,trivial⟩ (fun E h => zU.opE (qP (xs:=[.tmp 71,.tmp 72,.tmp 73]) Tryz.call192 (FnK.go (t_O.h _ _ _) hr14) (afC h.1 rfl (afC h.2.1 rfl (afC h.2.2.1 rfl afN))) rfl ⟨(xL ⟨trivial,trivial,trivial⟩),trivial⟩ rfl rfl) rfl) ?_
 refine xR [(2,_)] ?_
 refine xP [(1,_)] ?_
 refine xP [(10,_)] ?_
 refine dG [(75,_),(76,_),(77,_)] [([(78,some (zY r15))],[(78,0)])] ⟨rfl,rfl,rfl,trivial⟩ (fun E h => zU.opE (qP (xs:=[.tmp 75,.tmp 76,.tmp 77]) Tryz.call192 (FnK.go (t_O.h _ _ _) hr15) (afC h.1 rfl (afC h.2.1 rfl (afC h.2.2.1 rfl afN))) rfl ⟨(xL ⟨trivial,trivial,trivial⟩),trivial⟩ rfl rfl) rfl) ?_
 refine zBl [] ?_
 refine zBl [] ?_
 refine dG [(11,_),(74,_)] [([(11,some (T.ptr (zY r14))),(74,some (zY r14))],[(11,1),(74,1)])] ⟨rfl,rfl,trivial⟩ (fun E h => zU.opE (vP vJ rfl (wQ h.1 rfl) h.1 rfl rfl h.2.1 (zF (xL ⟨trivial,trivial,trivial⟩)) rfl) rfl) ?_
 refine dG [(12,_),(78,_)] [([(12,some (T.ptr (zY r15))),(78,some (zY r15))],[(12,1),(78,1)])] ⟨rfl,rfl,trivial⟩ (fun E h => zU.opE (vP vJ rfl (wQ h.1 rfl) h.1 rfl rfl h.2.1 (zF (xL ⟨trivial,trivial,trivial⟩)) rfl) rfl) ?_
 refine dNA wG ?_
 refine nA (CW.seq ?_)
 obtain ⟨r16,hr16,h⟩:=bd h
 obtain ⟨r17,hr17,h⟩:=bd h
 refine CW.dk ?_
 refine xR [(2,_)] ?_
 refine xP [(1,_)] ?_
 refine xR [(2,_)] ?_
 refine xP [(7,_)] ?_
 refine xP [(10,_)] ?_
 refine dG [(81,_),(82,_),(83,_)] [([(84,some (zY r16))],[(84,0)])] ⟨rfl,rfl,rfl,trivial⟩ (fun E h => zU.opE (qP (xs:=[.tmp 81,.tmp 82,.tmp 83]) Tryz.call192 (FnK.go (t_O.h _ _ _) hr16) (afC h.1 rfl (afC h.2.1 rfl (afC h.2.2.1 rfl afN))) rfl ⟨(xL ⟨trivial,trivial,trivial⟩),trivial⟩ rfl rfl) rfl) ?_
 refine dC [(79,_),(80,_),(84,_)] Tryz.call194 (FnK.go (t_f.h _ _ _) hr17) ?_
 refine zBl [] ?_
 refine dG [(13,_),(85,_)] [([(13,some (T.ptr (yI r17))),(85,some (T.agg [T.same 13 [0,0],T.same 13 [1,0]]))],[(13,1),(85,1)])] ⟨rfl,rfl,trivial⟩ (fun E h => zU.opE (vP vJ rfl (wQ h.1 rfl) h.1 rfl rfl h.2.1 (zF (xL ⟨(zM (Enc.clean (f:=I))),(zM (Enc.clean (f:=I))),trivial⟩)) rfl) rfl) ?_
 refine dNA wG ?_
 refine nA (CW.to [(1,I x1),(2,T.ptr (yD x0)),(5,I (x0.p.zA.length:Int)),(6,L 1 lV s12.1),(7,I s9.2),(10,I s12.2),(11,T.ptr (zY r14)),(12,T.ptr (zY r15)),(13,T.ptr (yI r17))] ⟨rfl,rfl,rfl,rfl,rfl,rfl,rfl,rfl,rfl,trivial⟩ ?_)
 obtain ⟨v18,hv18,h⟩:=bd h
 obtain ⟨r19,hr19,h⟩:=bd h
 obtain ⟨v20,hv20,h⟩:=bd h
 obtain ⟨r21,hr21,h⟩:=bd h
 obtain ⟨r22,hr22,h⟩:=bd h
 obtain ⟨v23,hv23,h⟩:=bd h
 refine CW.dk ?_
 refine xP [(6,_)] ?_
 refine xR [(2,_)] ?_
 refine xR [(2,_)] ?_
 refine xP [(1,_)] ?_
 refine dG [(89,_)] [([(90,some (I v18))],[(90,0)])] ⟨rfl,trivial⟩ (fun E h => zU.opE (zAI hv18 h.1 rfl rfl) rfl) ?_
 refine xR [(12,_)] ?_
 refine xR [(11,_)] ?_
 refine dC [(88,_),(90,_),(91,_),(92,_)] Tryz.call191 (FnK.go (t_d.h _ _ _ _) hr19) ?_
 refine xR [(2,_)] ?_
 refine xP [(1,_)] ?_
 refine dG [(95,_)] [([(96,some (I v20))],[(96,0)])] ⟨rfl,trivial⟩ (fun E h => zU.opE (zAI hv20 h.1 rfl rfl) rfl) ?_
 refine xR [(11,_)] ?_
 refine xR [(13,_)] ?_
 refine dG [(94,_),(96,_),(97,_),(98,_),(13,_)] [([(99,some (yI r21))],[(99,0)])] ⟨rfl,rfl,rfl,rfl,rfl,trivial⟩ (fun E h => zU.opE (yJ (xs:=[.tmp 94,.tmp 96,.tmp 97,.tmp 98]) Tryz.call191 (FnK.go (t_d.h _ _ _ _) hr21) ⟨(agC _ h.1 rfl rfl),⟨(agC _ h.2.1 rfl rfl),⟨(agC _ h.2.2.1 rfl rfl),⟨(agC _ h.2.2.2.1 (tJ (xD (tD h.2.2.2.2.1 rfl inferInstance) (xD (tD h.2.2.2.2.1 rfl inferInstance) tK))) rfl),trivial⟩⟩⟩⟩ (wF (f:=yI) inferInstance wK) rfl) rfl) ?_
 refine dG [(87,_),(93,_),(99,_)] [([(100,some (L 1 I r22))],[(100,0)])] ⟨rfl,rfl,rfl,trivial⟩ (fun E h => zU.opE (yJ (xs:=[.tmp 87,.tmp 93,.tmp 99]) Tryz.call193 (FnK.go (t_Q.h _ _ _) hr22) ⟨(agC _ h.1 rfl rfl),⟨(agC _ h.2.1 (tJ (xD (uS inferInstance) (xD (uS inferInstance) tK))) rfl),⟨(agC _ h.2.2.1 (tJ (xD (uS inferInstance) (xD (uS inferInstance) tK))) rfl),trivial⟩⟩⟩ (wF (f:=lV) inferInstance wK) rfl) rfl) ?_
 refine dG [(100,_)] [([(101,some (L 1 lV [r22])),(100,some (T.same 101 [0]))],[(101,0),(100,1)])] ⟨rfl,trivial⟩ (fun E h => zU.opE (zDg elt_23 [.tmp 100] [.slot 100 (L 1 I r22)] [r22] lV ⟨.slot _ _,trivial⟩ (pkS h.1 (zF (zM (Enc.clean (f:=I)))) rfl pkN) rfl rfl) rfl) ?_
 refine dG [(86,T.same 6 []),(6,L 1 lV s12.1),(101,L 1 lV [r22])] [([(86,some (L 1 lV s12.1)),(6,some (T.same 86 []))],[(86,1),(6,1)]),([(102,some (L 1 lV v23)),(86,some T.any),(101,some T.any)],[(102,0),(86,1),(101,1)])] ⟨rfl,rfl,rfl,trivial⟩ (fun E h => zU.gh (zN.tr 86 6 _ h.1 h.2.1 (zF (zM (Enc.clean (f:=lV)))) rfl) <| zU.opE (zAj (f:=lV) elt_23 hv23 rfl (zB6 h.2.2.1) rfl) rfl) ?_
 refine zDh [(102,_)] ?_
 refine dNA wG ?_
 refine nB (nA (CW.region (zX ?_)))
 obtain ⟨v24,hv24,h⟩:=bd h
 refine tY ?_
 refine yM ?_
 refine RW.ghost (zN.tr 6 102 _ rfl rfl (zF (zM (Enc.clean (f:=lV)))) rfl) ?_
 refine RW.nil ?_
 exact eN h
 refine CW.exit (xA ?_)
 exact eX h
 obtain ⟨rfl,hg⟩:=hq
 refine xB ?_
 refine nB (nA (CW.ghost hg ?_))
 refine CW.region (zX ?_)
 obtain ⟨v26,hv26,h⟩:=bd h
 refine tY ?_
 refine yM ?_
 refine RW.nil ?_
 exact eN h
 refine CW.exit (xA ?_)
 exact eX h
 obtain ⟨rfl,hg⟩:=hq
 refine xB ?_
 refine nA (CW.ghost hg ?_)
 refine sR (vL ?_)
 refine zX ?_
 obtain ⟨r28,hr28,h⟩:=bd h
 refine oP (qP (xs:=[.tmp 103,.tmp 104]) Tryz.call195 (FnK.go (t_ai.h _ _) hr28) (afC rfl rfl (afC rfl rfl afN)) rfl ⟨(xL ⟨trivial,trivial,trivial⟩),trivial⟩ rfl rfl) ?_
 refine vU ?_
 refine oP (vP vJ rfl (wQ rfl rfl) rfl rfl rfl rfl (zF (xL ⟨trivial,trivial,trivial⟩)) rfl) ?_
 refine rN (CW.seq ?_)
 obtain ⟨r29,hr29,h⟩:=bd h
 obtain ⟨r30,hr30,h⟩:=bd h
 obtain ⟨v31,hv31,h⟩:=bd h
 refine CW.dk ?_
 refine xP [(6,_)] ?_
 refine xR [(2,_)] ?_
 refine xR [(2,_)] ?_
 refine xP [(1,_)] ?_
 refine xR [(14,_)] ?_
 refine dC [(108,_),(109,_),(110,_)] Tryz.call194 (FnK.go (t_f.h _ _ _) hr29) ?_
 refine xR [(14,_)] ?_
 refine dG [(107,_),(111,_),(112,_)] [([(113,some (L 1 I r30))],[(113,0)])] ⟨rfl,rfl,rfl,trivial⟩ (fun E h => zU.opE (yJ (xs:=[.tmp 107,.tmp 111,.tmp 112]) Tryz.call193 (FnK.go (t_Q.h _ _ _) hr30) ⟨(agC _ h.1 rfl rfl),⟨(agC _ h.2.1 (tJ (xD (uS inferInstance) (xD (uS inferInstance) tK))) rfl),⟨(agC _ h.2.2.1 rfl rfl),trivial⟩⟩⟩ (wF (f:=lV) inferInstance wK) rfl) rfl) ?_
 refine dG [(113,_)] [([(114,some (L 1 lV [r30])),(113,some (T.same 114 [0]))],[(114,0),(113,1)])] ⟨rfl,trivial⟩ (fun E h => zU.opE (zDg elt_23 [.tmp 113] [.slot 113 (L 1 I r30)] [r30] lV ⟨.slot _ _,trivial⟩ (pkS h.1 (zF (zM (Enc.clean (f:=I)))) rfl pkN) rfl rfl) rfl) ?_
 refine dG [(106,T.same 6 []),(6,L 1 lV r27),(114,L 1 lV [r30])] [([(106,some (L 1 lV r27)),(6,some (T.same 106 []))],[(106,1),(6,1)]),([(115,some (L 1 lV v31)),(106,some T.any),(114,some T.any)],[(115,0),(106,1),(114,1)])] ⟨rfl,rfl,rfl,trivial⟩ (fun E h => zU.gh (zN.tr 106 6 _ h.1 h.2.1 (zF (zM (Enc.clean (f:=lV)))) rfl) <| zU.opE (zAj (f:=lV) elt_23 hv31 rfl (zB6 h.2.2.1) rfl) rfl) ?_
 refine zDh [(115,_)] ?_
 refine dNA wG ?_
 refine nA (CW.ghost (zN.tr 6 115 _ rfl rfl (zF (zM (Enc.clean (f:=lV)))) rfl) ?_)
 refine CW.seq (sR (zX ?_))
 obtain ⟨v32,hv32,h⟩:=bd h
 refine tY ?_
 refine yM ?_
 refine rN (CW.block ?_)
 obtain ⟨r46,hr46,h⟩:=bd h
 refine CW.lp (s:=(v31,v32)) (zMk x0 x1 r28) (fun s19:(List (List Int)) × Int => wB [(1,I x1),(2,T.ptr (yD x0)),(5,I (x0.p.zA.length:Int)),(6,L 1 lV s19.1),(14,T.ptr (zY r28)),(15,I s19.2)]) (fun (r46:(List (List Int))) e E => e = .exit 6 ∧ zN ⟨St,W,w0,Tryz.f162.ntmps⟩ E (wB [(6,L 1 lV r46)])) (.has ⟨rfl,rfl,rfl,rfl,rfl,rfl,trivial⟩) (fun s19 x h => ?_) hr46 (fun e E hq => ?_)
 refine CW.seq (sR (zX ?_))
 refine zX ?_
 refine vZ ?_
 refine rN (cn h (fun hc h => ?_) (fun hc h => ?_))
 refine CW.skip (nA (CW.seq (CW.block (sR (vL ?_)))))
 obtain ⟨r33,hr33,h⟩:=bd h
 refine cA Tryz.call190 (FnK.go (t_aj.h _) hr33) ?_
 refine vU ?_
 refine oP (vP vJ rfl (wQ rfl rfl) rfl rfl rfl rfl (zF (xL ⟨(zM (Enc.clean (f:=I))),(zM (Enc.clean (f:=I))),trivial⟩)) rfl) ?_
 refine rN (sR (zA6 ?_))
 refine zBw ?_
 refine zX ?_
 obtain ⟨v34,hv34,h⟩:=bd h
 refine zL3 ?_
 refine oP (zGH zF6 rfl rfl rfl (yZ (xC rfl (zP hv34 rfl))) (kP (zGF rfl (zAk hv34 rfl))) rfl rfl) ?_
 refine rN (sR (vL ?_))
 refine vU ?_
 refine RW.ghost (zN.frzI 9 16 _ (t':=T.agg [T.ro (lV (r33.x.set s19.2.toNat 1)),T.ro (lV r33.v)]) rfl (fzA (fzC (fzO inferInstance) (fzC (fzO inferInstance) fzN)))) ?_
 refine RW.ghost (zN.resf 129 [0] 16 [0,0] _ _ rfl rfl rfl rfl rfl rfl) ?_
 refine RW.ghost (zN.resf 129 [1] 16 [1,0] _ _ rfl rfl rfl rfl rfl rfl) ?_
 refine oP (vP vJ rfl (wQ rfl rfl) rfl rfl rfl rfl (zF (xL ⟨trivial,trivial,trivial⟩)) rfl) ?_
 refine rN (CW.seq (sR (yM ?_)))
 refine rN (CW.block ?_)
 obtain ⟨r38,hr38,h⟩:=bd h
 refine CW.lp (s:=(r33.x.set s19.2.toNat 1,r33.v,0)) (zPc x0 x1) (fun s20:(List Int) × (List Int) × Int => wB [(1,I x1),(2,T.ptr (yD x0)),(5,I (x0.p.zA.length:Int)),(6,L 1 lV s19.1),(14,T.ptr (zY r28)),(15,I s19.2),(16,T.ptr (T.agg [T.ro (lV (r33.x.set s19.2.toNat 1)),T.ro (lV r33.v)])),(17,T.ptr (T.agg [T.ro (lV s20.1),T.ro (lV s20.2.1)])),(18,I s20.2.2)]) (fun (r38:((List Int) × (List Int))) e E => e = .exit 8 ∧ zN ⟨St,W,w0,Tryz.f162.ntmps⟩ E (wB [(1,I x1),(2,T.ptr (yD x0)),(5,I (x0.p.zA.length:Int)),(6,L 1 lV s19.1),(14,T.ptr (zY r28)),(15,I s19.2),(16,T.ptr (T.agg [T.ro (lV (r33.x.set s19.2.toNat 1)),T.ro (lV r33.v)])),(17,T.ptr (T.agg [T.ro (lV r38.1),T.ro (lV r38.2)]))])) (.has ⟨rfl,rfl,rfl,rfl,rfl,rfl,rfl,rfl,rfl,trivial⟩) (fun s20 x h => ?_) hr38 (fun e E hq => ?_)
 refine CW.seq (sR (zX ?_))
 refine zA6 ?_
 refine oP (zC6 fld_37_0 rfl rfl rfl rfl rfl rfl) ?_
 refine zBw ?_
 refine zX ?_
 obtain ⟨v35,hv35,h⟩:=bd h
 refine zBA ?_
 refine qB ?_
 refine vZ ?_
 refine rN (cn h (fun hc h => ?_) (fun hc h => ?_))
 refine CW.skip (nA (CW.seq (CW.block (CW.region (vL ?_)))))
 refine zX ?_
 refine vL ?_
 obtain ⟨r36,hr36,h⟩:=bd h
 refine cA Tryz.call194 (FnK.go (t_f.h _ _ _) hr36) ?_
 refine oP (vP vJ rfl (wQ rfl rfl) rfl rfl rfl rfl (zF (xL ⟨(zM (Enc.clean (f:=I))),(zM (Enc.clean (f:=I))),trivial⟩)) rfl) ?_
 refine RW.nil ?_
 refine nB (nA (CW.region (zX ?_)))
 obtain ⟨v37,hv37,h⟩:=bd h
 refine tY ?_
 refine yM ?_
 refine RW.ghost (zN.frzI 1 17 _ (t':=zY r36) rfl (fzA (fzC (fzO inferInstance) (fzC (fzO inferInstance) fzN)))) ?_
 refine RW.nil ?_
 exact eN h
 refine CW.exit (xA ?_)
 exact eX h
 obtain ⟨rfl,hg⟩:=hq
 refine xB ?_
 refine nA (CW.ghost hg ?_)
 obtain ⟨v39,hv39,h⟩:=bd h
 obtain ⟨r40,hr40,h⟩:=bd h
 obtain ⟨v41,hv41,h⟩:=bd h
 obtain ⟨r42,hr42,h⟩:=bd h
 obtain ⟨r43,hr43,h⟩:=bd h
 obtain ⟨v44,hv44,h⟩:=bd h
 refine CW.dk ?_
 refine xP [(6,_)] ?_
 refine xR [(2,_)] ?_
 refine xR [(2,_)] ?_
 refine xP [(1,_)] ?_
 refine dG [(147,_)] [([(148,some (I v39))],[(148,0)])] ⟨rfl,trivial⟩ (fun E h => zU.opE (zAI hv39 h.1 rfl rfl) rfl) ?_
 refine xR [(14,_)] ?_
 refine xR [(17,_)] ?_
 refine dC [(146,_),(148,_),(149,_),(150,_)] Tryz.call191 (FnK.go (t_d.h _ _ _ _) hr40) ?_
 refine xR [(2,_)] ?_
 refine xP [(1,_)] ?_
 refine dG [(153,_)] [([(154,some (I v41))],[(154,0)])] ⟨rfl,trivial⟩ (fun E h => zU.opE (zAI hv41 h.1 rfl rfl) rfl) ?_
 refine xR [(16,_)] ?_
 refine xR [(14,_)] ?_
 refine dC [(152,_),(154,_),(155,_),(156,_)] Tryz.call191 (FnK.go (t_d.h _ _ _ _) hr42) ?_
 refine dG [(145,_),(151,_),(157,_)] [([(158,some (L 1 I r43))],[(158,0)])] ⟨rfl,rfl,rfl,trivial⟩ (fun E h => zU.opE (yJ (xs:=[.tmp 145,.tmp 151,.tmp 157]) Tryz.call193 (FnK.go (t_Q.h _ _ _) hr43) ⟨(agC _ h.1 rfl rfl),⟨(agC _ h.2.1 (tJ (xD (uS inferInstance) (xD (uS inferInstance) tK))) rfl),⟨(agC _ h.2.2.1 (tJ (xD (uS inferInstance) (xD (uS inferInstance) tK))) rfl),trivial⟩⟩⟩ (wF (f:=lV) inferInstance wK) rfl) rfl) ?_
 refine dG [(158,_)] [([(159,some (L 1 lV [r43])),(158,some (T.same 159 [0]))],[(159,0),(158,1)])] ⟨rfl,trivial⟩ (fun E h => zU.opE (zDg elt_23 [.tmp 158] [.slot 158 (L 1 I r43)] [r43] lV ⟨.slot _ _,trivial⟩ (pkS h.1 (zF (zM (Enc.clean (f:=I)))) rfl pkN) rfl rfl) rfl) ?_
 refine dG [(144,T.same 6 []),(6,L 1 lV s19.1),(159,L 1 lV [r43])] [([(144,some (L 1 lV s19.1)),(6,some (T.same 144 []))],[(144,1),(6,1)]),([(160,some (L 1 lV v44)),(144,some T.any),(159,some T.any)],[(160,0),(144,1),(159,1)])] ⟨rfl,rfl,rfl,trivial⟩ (fun E h => zU.gh (zN.tr 144 6 _ h.1 h.2.1 (zF (zM (Enc.clean (f:=lV)))) rfl) <| zU.opE (zAj (f:=lV) elt_23 hv44 rfl (zB6 h.2.2.1) rfl) rfl) ?_
 refine zDh [(160,_)] ?_
 refine dNA wG ?_
 refine nB (nA (CW.region (zX ?_)))
 obtain ⟨v45,hv45,h⟩:=bd h
 refine tY ?_
 refine yM ?_
 refine RW.ghost (zN.tr 6 160 _ rfl rfl (zF (zM (Enc.clean (f:=lV)))) rfl) ?_
 refine RW.nil ?_
 exact eN h
 refine CW.exit (xA ?_)
 exact eX h
 obtain ⟨rfl,hg⟩:=hq
 refine xB ?_
 refine nA (CW.ghost hg ?_)
 refine sR (zX ?_)
 refine yM ?_
 refine RW.ghost (zN.tr 4 6 _ rfl rfl (zF (zM (Enc.clean (f:=lV)))) rfl) ?_
 refine rN (CW.ret ?_)
 obtain rfl:=sI h
 exact rT
instance t_h:FI Tryz.prog 162 (∀ (x0:zO) (x1:Int),FnK Tryz.prog 162 [yD x0,I x1] (fun r:(List (List Int)) => [lM r]) (fun _ => []) (f_h x0 x1)):=⟨Tryz.call162,fun x0 x1 => FnK.mk (u_h x0 x1)⟩
section
attribute [local irreducible] RW CW DK OkL Ok xG xH wW vM XS.post rng uJ vQ ixO yB wJ vF yP zJ GTo zN FnC FnK vT tE Kp Lk BsL BuL RpL Bk Lc
instance (x0:zO):LH (R:=(List (List Int))) (zIO x0) [1] [] (fun s1 => [(3,L 1 lV s1.1),(4,I s1.2)]) (.xe 0 [1] fun r4 => [(3,L 1 lV r4)]):=⟨⟩
instance t_ak:FI Tryz.prog 112 (∀ (x0:zO),FnK Tryz.prog 112 [yD x0] (fun r:(List (List Int)) => [lM r]) (fun _ => []) (zQg x0)):=⟨Tryz.call112,fun x0 => iF Tryz.func112⟩
instance (x0:List Int):LH (R:=Bool) (zQN x0) [0] [] (fun s1 => [(3,I s1)]) (.xs (.xe 0 [0] fun _ => []) .xr):=⟨⟩
instance t_aQ:FI Tryz.prog 151 (∀ (x0:List Int),FnK Tryz.prog 151 [T.ro (lV x0)] (fun r:Bool => [B r]) (fun _ => []) (zRU x0)):=⟨Tryz.call151,fun x0 => iF Tryz.func151⟩
instance (r1:(List (List Int))):LH (R:=Bool) (zPd r1) [7] [] (fun s1 => [(8,I s1)]) (.xs (.xe 0 [7] fun _ => []) .xr):=⟨⟩
instance t_Z:FI Tryz.prog 97 (∀ (x0:SPr) (x1:zC) (x2:List (List Int)),FnK Tryz.prog 97 [qPr x0,yR x1,T.ro (lM x2)] (fun r:Bool => [B r]) (fun _ => []) (f_Z x0 x1 x2)):=⟨Tryz.call97,fun x0 x1 x2 => iF Tryz.func97⟩
instance t_bd:FI Tryz.prog 49 (∀ (x0:SPr) (x1:zC) (x2:List (List Int)) (x3:List (List Int)),FnK Tryz.prog 49 [qPr x0,yR x1,T.ro (lM x2),T.ro (lM x3)] (fun r:Int => [I r]) (fun _ => []) (zRW x0 x1 x2 x3)):=⟨Tryz.call49,fun x0 x1 x2 x3 => iF Tryz.func49⟩
instance t_aR:FI Tryz.prog 13 (∀ (x0:SPr) (x1:zC) (x2:zC) (x3:zL) (x4:List (List Int)),FnK Tryz.prog 13 [qPr x0,yR x1,yR x2,wR x3,T.ro (lM x4)] (fun r:(List (List Int)) × Int => [lM r.1,I r.2]) (fun _ => []) (zPe x0 x1 x2 x3 x4)):=⟨Tryz.call13,fun x0 x1 x2 x3 x4 => iF Tryz.func13⟩
instance t_ap:FI Tryz.prog 100 (∀ (x0:Int),FnK Tryz.prog 100 [I x0] (fun r:Bool => [B r]) (fun _ => []) (zLV x0)):=⟨Tryz.call100,fun x0 => iF Tryz.func100⟩
instance t_ao:FI Tryz.prog 101 (∀ (x0:Int) (x1:Int) (x2:Int),FnK Tryz.prog 101 [I x0,I x1,I x2] (fun r:Bool => [B r]) (fun _ => []) (zJO x0 x1 x2)):=⟨Tryz.call101,fun x0 x1 x2 => iF Tryz.func101⟩
instance (x0:SPr) (x1:List Int):LH (R:=Bool) (zLj x0 x1) [0,15,16] [] (fun s1 => [(17,I s1)]) (.xs (.xe 0 [0,15,16] fun _ => []) .xr):=⟨⟩
instance t_aq:FI Tryz.prog 200 (∀ (x0:SPr) (x1:List Int),FnK Tryz.prog 200 [T.ro ((Pt xU) x0),T.ro (lV x1)] (fun r:Bool => [B r]) (fun _ => []) (zPU x0 x1)):=⟨Tryz.call200,fun x0 x1 => iF Tryz.func200⟩
instance (x0:List Int):LH (R:=Bool) (zLW x0) [5,6] [] (fun s1 => [(7,I s1)]) (.xs (.xe 0 [5,6] fun _ => []) .xr):=⟨⟩
instance t_U:FI Tryz.prog 171 (∀ (x0:List Int),FnK Tryz.prog 171 [T.ro (lV x0)] (fun r:Bool => [B r]) (fun _ => []) (f_U x0)):=⟨Tryz.call171,fun x0 => iF Tryz.func171⟩
instance t_aW:FI Tryz.prog 181 (∀ (x0:SPr) (x1:Int) (x2:List Int),FnK Tryz.prog 181 [T.ro ((Pt xU) x0),I x1,T.ro (lV x2)] (fun r:Bool => [B r]) (fun _ => []) (zOs x0 x1 x2)):=⟨Tryz.call181,fun x0 x1 x2 => iF Tryz.func181⟩
instance (x0:SPr):LH (R:=Bool) (zJP x0) [1,3,30,31] [] (fun s1 => [(4,I s1.1),(32,I s1.2)]) (.xs (.xe 0 [30,31] fun _ => []) .xr):=⟨⟩
instance (x0:SPr) (s7:Int) (v12:List (List Int)):LH (R:=Bool) (zOt x0 s7 v12) [1,3,7,49,50,78,79] [] (fun s8 => [(80,I s8)]) (.xs (.xe 4 [7,78,79] fun _ => []) .xr):=⟨⟩
instance (x0:SPr):LH (R:=Bool) (zJQ x0) [1,3,49] [] (fun s7 => [(50,I s7)]) (.xs (.xe 2 [1,3,49] fun _ => []) .xr):=⟨⟩
instance t_m:FI Tryz.prog 142 (∀ (x0:SPr),FnK Tryz.prog 142 [qPr x0] (fun r:Bool => [B r]) (fun _ => []) (f_m x0)):=⟨Tryz.call142,fun x0 => iF Tryz.func142⟩
end
theorem u_z (x0:List Int) (r:(List Int)) (h:f_z x0 = some r):FnC Tryz.prog 136 [T.ro (lV x0)] [lV r] []:=by
 refine fB Tryz.func136 (fun St W w0 v => ?_)
 refine sR (oP (zEC 1 rfl) ?_)
 refine rN (CW.seq (sR (zX ?_)))
 refine RW.isnil Tryz.underlying22 (wQ rfl rfl) (.inl rfl) rfl rfl (fun b1 hb1 => ?_)
 refine rN (CW.cond _ rfl (fun hc => ?_) (fun hc => ?_))
 have hx:=hb1 hc
 subst hx
 have h:some ([]) = some r:=by simpa [wJ,f_z] using h
 refine sR (oP (zEC 1 rfl) ?_)
 refine rN (CW.ret (rA ?_))
 obtain rfl:=sI h
 exact rT
 refine CW.skip (nA (sR (oP (zMQ elt_22 rfl) ?_)))
 refine zX ?_
 obtain ⟨v2,hv2,h⟩:=bd h
 refine oP (zJg (f:=I) (g:=I) elt_22 (fun _ => rfl) (fun _ => rfl) inferInstance hv2 rfl (wQ rfl rfl) rfl) ?_
 refine yM ?_
 refine RW.ghost (zN.tr 2 7 _ rfl rfl (zF (zM (Enc.clean (f:=I)))) rfl) ?_
 refine rN (CW.ret ?_)
 obtain rfl:=sI h
 exact rT
instance t_z:FI Tryz.prog 136 (∀ (x0:List Int),FnK Tryz.prog 136 [T.ro (lV x0)] (fun r:(List Int) => [lV r]) (fun _ => []) (f_z x0)):=⟨Tryz.call136,fun x0 => FnK.mk (u_z x0)⟩
end Go.Wk

namespace Go.Wk
open Go Go.Proofs Go.Ab
set_option maxRecDepth 100000
set_option maxHeartbeats 4000000
section
attribute [local irreducible] RW CW DK OkL Ok xG xH wW vM XS.post rng uJ vQ ixO yB wJ vF yP zJ GTo zN FnC FnK vT tE Kp Lk BsL BuL RpL Bk Lc
instance (x2:Int) (r3:(List Int)):LH (R:=(List Int)) (zOu x2 r3) [0,2,6,16] [] (fun s1 => [(1,L 1 I s1.1),(17,I s1.2)]) (.xe 0 [16] fun r8 => [(1,L 1 I r8)]):=⟨⟩
instance (g_c:SPr → (List Int) → (List Int) → Option (List Int)) (x0:SPr) (x2:Int) (s7:(List Int) × Int) (v17:Int):LH (R:=(List Int)) (zRK g_c x0 x2 s7 v17) [0,2,8,58,59,60,65] [] (fun s8 => [(1,L 1 I s8.1),(66,I s8.2)]) (.xe 4 [8,65] fun r22 => [(1,L 1 I r22)]):=⟨⟩
instance (g_c:SPr → (List Int) → (List Int) → Option (List Int)) (x0:SPr) (x2:Int) (r3:(List Int)):LH (R:=(List Int)) (zRL g_c x0 x2 r3) [0,2,58,59] [] (fun s7 => [(1,L 1 I s7.1),(60,I s7.2)]) (.xe 2 [0,2,58,59] fun r24 => [(1,L 1 I r24)]):=⟨⟩
instance (g_c:SPr → (List Int) → (List Int) → Option (List Int)) (x0:SPr) (x2:Int) (s15:(List Int) × Int) (v25:Int):LH (R:=(List Int)) (zRM g_c x0 x2 s15 v25) [0,2,8,58,59,60,65] [] (fun s16 => [(1,L 1 I s16.1),(66,I s16.2)]) (.xe 4 [8,65] fun r30 => [(1,L 1 I r30)]):=⟨⟩
instance (g_c:SPr → (List Int) → (List Int) → Option (List Int)) (x0:SPr) (x2:Int) (r3:(List Int)):LH (R:=(List Int)) (zRN g_c x0 x2 r3) [0,2,58,59] [] (fun s15 => [(1,L 1 I s15.1),(60,I s15.2)]) (.xe 2 [0,2,58,59] fun r32 => [(1,L 1 I r32)]):=⟨⟩
theorem zUr {g_c:SPr → (List Int) → (List Int) → Option (List Int)} [FI Tryz.prog 204 (∀ (x0:SPr) (x1:List Int) (x2:List Int),FnK Tryz.prog 204 [T.ro ((Pt xU) x0),L 1 I x1,T.ro (lV x2)] (fun _:(List Int) => []) (fun r => [(1,lV r)]) (g_c x0 x1 x2))]:∀ (x0:SPr) (x1:List Int) (x2:Int),FnK Tryz.prog 211 [T.ro ((Pt xU) x0),L 1 I x1,I x2] (fun _:(List Int) => []) (fun r => [(1,lV r)]) (b_b g_c x0 x1 x2):=fun x0 x1 x2 => iF Tryz.func211
theorem zUs {g_c:SPr → (List Int) → (List Int) → Option (List Int)} (H_c:∀ (x0:SPr) (x1:List Int) (x2:List Int) r,g_c x0 x1 x2 = some r → FnC Tryz.prog 204 [T.ro ((Pt xU) x0),L 1 I x1,T.ro (lV x2)] [] [(1,lV r)]) (x0:SPr) (x1:List Int) (x2:Int) (r:(List Int)) (h:b_b g_c x0 x1 x2 = some r):FnC Tryz.prog 211 [T.ro ((Pt xU) x0),L 1 I x1,I x2] [] [(1,lV r)]:=by
 have:FI Tryz.prog 204 (∀ (x0:SPr) (x1:List Int) (x2:List Int),FnK Tryz.prog 204 [T.ro ((Pt xU) x0),L 1 I x1,T.ro (lV x2)] (fun _:(List Int) => []) (fun r => [(1,lV r)]) (g_c x0 x1 x2)):=⟨Tryz.call204,fun x0 x1 x2 => FnK.mk (H_c x0 x1 x2)⟩
 exact (zUr x0 x1 x2).go h
instance (g_b:SPr → (List Int) → Int → Option (List Int)) (x0:SPr) (s5:(List Int) × Int) (v1:Int):LH (R:=(List Int)) (zOv g_b x0 s5 v1) [0,6,8,9,10,15] [] (fun s6 => [(1,L 1 I s6.1),(16,I s6.2)]) (.xe 2 [6,15] fun r4 => [(1,L 1 I r4)]):=⟨⟩
instance (g_b:SPr → (List Int) → Int → Option (List Int)) (x0:SPr) (x2:List Int):LH (R:=(List Int)) (zOw g_b x0 x2) [0,8,9] [] (fun s5 => [(1,L 1 I s5.1),(10,I s5.2)]) (.xe 0 [0,8,9] fun r6 => [(1,L 1 I r6)]):=⟨⟩
theorem zUt {g_b:SPr → (List Int) → Int → Option (List Int)} [FI Tryz.prog 211 (∀ (x0:SPr) (x1:List Int) (x2:Int),FnK Tryz.prog 211 [T.ro ((Pt xU) x0),L 1 I x1,I x2] (fun _:(List Int) => []) (fun r => [(1,lV r)]) (g_b x0 x1 x2))]:∀ (x0:SPr) (x1:List Int) (x2:List Int),FnK Tryz.prog 204 [T.ro ((Pt xU) x0),L 1 I x1,T.ro (lV x2)] (fun _:(List Int) => []) (fun r => [(1,lV r)]) (b_c g_b x0 x1 x2):=fun x0 x1 x2 => iF Tryz.func204
theorem zUu {g_b:SPr → (List Int) → Int → Option (List Int)} (H_b:∀ (x0:SPr) (x1:List Int) (x2:Int) r,g_b x0 x1 x2 = some r → FnC Tryz.prog 211 [T.ro ((Pt xU) x0),L 1 I x1,I x2] [] [(1,lV r)]) (x0:SPr) (x1:List Int) (x2:List Int) (r:(List Int)) (h:b_c g_b x0 x1 x2 = some r):FnC Tryz.prog 204 [T.ro ((Pt xU) x0),L 1 I x1,T.ro (lV x2)] [] [(1,lV r)]:=by
 have:FI Tryz.prog 211 (∀ (x0:SPr) (x1:List Int) (x2:Int),FnK Tryz.prog 211 [T.ro ((Pt xU) x0),L 1 I x1,I x2] (fun _:(List Int) => []) (fun r => [(1,lV r)]) (g_b x0 x1 x2)):=⟨Tryz.call211,fun x0 x1 x2 => FnK.mk (H_b x0 x1 x2)⟩
 exact (zUt x0 x1 x2).go h
end
theorem zTG:∀ n,(∀ (x0:SPr) (x1:List Int) (x2:Int) r,zOx n x0 x1 x2 = some r → FnC Tryz.prog 211 [T.ro ((Pt xU) x0),L 1 I x1,I x2] [] [(1,lV r)]) ∧ (∀ (x0:SPr) (x1:List Int) (x2:List Int) r,zLX n x0 x1 x2 = some r → FnC Tryz.prog 204 [T.ro ((Pt xU) x0),L 1 I x1,T.ro (lV x2)] [] [(1,lV r)]):=by
  intro n
  induction n with
  | zero => exact ⟨(fun _ _ _ r h => by simp [zOx] at h),(fun _ _ _ r h => by simp [zLX] at h)⟩
  | succ n ih => exact ⟨(fun x0 x1 x2 r h => zUs ih.2 x0 x1 x2 r (by simpa [zOx] using h)),(fun x0 x1 x2 r h => zUu ih.1 x0 x1 x2 r (by simpa [zLX] using h))⟩
theorem u_b (x0:SPr) (x1:List Int) (x2:Int) (r:(List Int)) (h:f_b x0 x1 x2 = some r):FnC Tryz.prog 211 [T.ro ((Pt xU) x0),L 1 I x1,I x2] [] [(1,lV r)]:=by
 obtain ⟨n,hn⟩:=sO h
 exact (zTG n).1 x0 x1 x2 r hn
theorem u_c (x0:SPr) (x1:List Int) (x2:List Int) (r:(List Int)) (h:f_c x0 x1 x2 = some r):FnC Tryz.prog 204 [T.ro ((Pt xU) x0),L 1 I x1,T.ro (lV x2)] [] [(1,lV r)]:=by
 obtain ⟨n,hn⟩:=sO h
 exact (zTG n).2 x0 x1 x2 r hn
instance t_b:FI Tryz.prog 211 (∀ (x0:SPr) (x1:List Int) (x2:Int),FnK Tryz.prog 211 [T.ro ((Pt xU) x0),L 1 I x1,I x2] (fun _:(List Int) => []) (fun r => [(1,lV r)]) (f_b x0 x1 x2)):=⟨Tryz.call211,fun x0 x1 x2 => FnK.mk (u_b x0 x1 x2)⟩
instance t_c:FI Tryz.prog 204 (∀ (x0:SPr) (x1:List Int) (x2:List Int),FnK Tryz.prog 204 [T.ro ((Pt xU) x0),L 1 I x1,T.ro (lV x2)] (fun _:(List Int) => []) (fun r => [(1,lV r)]) (f_c x0 x1 x2)):=⟨Tryz.call204,fun x0 x1 x2 => FnK.mk (u_c x0 x1 x2)⟩
section
attribute [local irreducible] RW CW DK OkL Ok xG xH wW vM XS.post rng uJ vQ ixO yB wJ vF yP zJ GTo zN FnC FnK vT tE Kp Lk BsL BuL RpL Bk Lc
instance (x0:SPr) (x1:List Int) (x2:Int):LH (R:=(List Int)) (zIE x0 x1 x2) [0,1,11] [] (fun s1 => [(7,L 1 I s1.1),(12,I s1.2)]) (.xe 0 [0,1,11] fun r4 => [(7,L 1 I r4)]):=⟨⟩
instance t_af:FI Tryz.prog 187 (∀ (x0:SPr) (x1:List Int) (x2:Int),FnK Tryz.prog 187 [T.ro ((Pt xU) x0),T.ro (lV x1),I x2] (fun r:(List Int) => [lV r]) (fun _ => []) (zPV x0 x1 x2)):=⟨Tryz.call187,fun x0 x1 x2 => iF Tryz.func187⟩
instance (x0:SPr) (v3:List Int) (v6:Int):LH (R:=(List Int)) (zOy x0 v3 v6) [0,1,2,9,19,20,21,32] [] (fun s6 => [(7,L 1 I s6.1),(33,I s6.2)]) (.xe 2 [9,32] fun r9 => [(7,L 1 I r9)]):=⟨⟩
instance (x0:SPr) (x1:Int) (x2:List Int) (v2:List (List Int)):LH (R:=(List Int)) (zOz x0 x1 x2 v2) [0,1,2,19,20] [] (fun s5 => [(7,L 1 I s5.1),(21,I s5.2)]) (.xe 0 [0,1,2,19,20] fun r11 => [(7,L 1 I r11)]):=⟨⟩
instance t_x:FI Tryz.prog 188 (∀ (x0:SPr) (x1:Int) (x2:List Int),FnK Tryz.prog 188 [T.ro ((Pt xU) x0),I x1,T.ro (lV x2)] (fun r:(List Int) => [lV r]) (fun _ => []) (f_x x0 x1 x2)):=⟨Tryz.call188,fun x0 x1 x2 => iF Tryz.func188⟩
instance (x0:List Int) (x1:List Int):LH (R:=Bool) (zRO x0 x1) [0,1,12] [] (fun s1 => [(13,I s1)]) (.xs (.xe 0 [0,1,12] fun _ => []) .xr):=⟨⟩
instance t_L:FI Tryz.prog 156 (∀ (x0:List Int) (x1:List Int),FnK Tryz.prog 156 [T.ro (lV x0),T.ro (lV x1)] (fun r:Bool => [B r]) (fun _ => []) (f_L x0 x1)):=⟨Tryz.call156,fun x0 x1 => iF Tryz.func156⟩
instance (x0:SPr) (s5:(List Int) × (List Int) × Int):LH (R:=(List Int)) (zLY x0 s5) [0,7,14,15] [] (fun s6 => [(5,L 1 I s6.1),(6,L 1 I s6.2)]) (.xe 2 [7] fun r6 => [(5,L 1 I r6.1),(6,L 1 I r6.2)]):=⟨⟩
instance (x0:SPr) (r1:(List Int)):LH (R:=(List Int)) (zO0 x0 r1) [0,14] [] (fun s5 => [(5,L 1 I s5.1),(6,L 1 I s5.2.1),(15,I s5.2.2)]) (.xe 0 [0,14] fun r8 => [(6,L 1 I r8)]):=⟨⟩
instance t_A:FI Tryz.prog 206 (∀ (x0:SPr) (x1:List Int),FnK Tryz.prog 206 [T.ro ((Pt xU) x0),T.ro (lV x1)] (fun r:(List Int) => [lV r]) (fun _ => []) (f_A x0 x1)):=⟨Tryz.call206,fun x0 x1 => iF Tryz.func206⟩
instance t_aX:FI Tryz.prog 205 (∀ (x0:SPr) (x1:List Int) (x2:List Int),FnK Tryz.prog 205 [T.ro ((Pt xU) x0),T.ro (lV x1),T.ro (lV x2)] (fun r:(List Int) => [lV r]) (fun _ => []) (zO1 x0 x1 x2)):=⟨Tryz.call205,fun x0 x1 x2 => iF Tryz.func205⟩
instance t_aY:FI Tryz.prog 189 (∀ (x0:SPr) (x1:List Int) (x2:List Int),FnK Tryz.prog 189 [T.ro ((Pt xU) x0),T.ro (lV x1),T.ro (lV x2)] (fun r:(List Int) => [lV r]) (fun _ => []) (zO2 x0 x1 x2)):=⟨Tryz.call189,fun x0 x1 x2 => iF Tryz.func189⟩
instance t_ar:FI Tryz.prog 88 (∀ (x0:Int) (x1:Int),FnK Tryz.prog 88 [I x0,I x1] (fun r:(List Int) => [lV r]) (fun _ => []) (zIF x0 x1)):=⟨Tryz.call88,fun x0 x1 => iF Tryz.func88⟩
instance (x0:SPr) (x1:Int):LH (R:=yL) (zO3 x0 x1) [0,1,4,5,6] [] (fun s1 => [(7,I s1)]) (.xs (.xe 0 [] fun _ => []) .xr):=⟨⟩
instance (x0:SPr) (x1:Int) (s7:Int):LH (R:=yL) (zO4 x0 x1 s7) [0,1,4,5,6,8] [] (fun s8 => [(9,I s8)]) (.xs (.xe 4 [] fun _ => []) .xr):=⟨⟩
instance (x0:SPr) (x1:Int):LH (R:=yL) (zO5 x0 x1) [0,1,4,5,6] [] (fun s7 => [(8,I s7)]) (.xs (.xe 2 [] fun _ => []) .xr):=⟨⟩
instance (x0:SPr) (x1:Int) (v39:Int):LH (R:=yL) (zO6 x0 x1 v39) [0,1,4,5,6,10,11,159] [] (fun s16 => [(12,L 1 I s16.1),(160,I s16.2)]) (.xe 8 [159] fun r42 => [(12,L 1 I r42)]):=⟨⟩
instance (x0:SPr) (x1:Int) (v34:List Int):LH (R:=yL) (zO7 x0 x1 v34) [0,1,4,5,6,10] [] (fun s15 => [(11,I s15)]) (.xs (.xe 6 [0,1,5,6,10] fun _ => []) .xr):=⟨⟩
instance t_j:FI Tryz.prog 160 (∀ (x0:SPr) (x1:Int),FnK Tryz.prog 160 [T.ro ((Pt xU) x0),I x1] (fun r:yL => [zEi r]) (fun _ => []) (f_j x0 x1)):=⟨Tryz.call160,fun x0 x1 => iF Tryz.func160⟩
instance (x0:SPr):LH (R:=Int) (zIG x0) [0] [] (fun s1 => [(3,I s1)]) (.xe 0 [0] fun r4 => [(3,I r4)]):=⟨⟩
instance t_H:FI Tryz.prog 110 (∀ (x0:SPr),FnK Tryz.prog 110 [T.ro ((Pt xU) x0)] (fun r:Int => [I r]) (fun _ => []) (f_H x0)):=⟨Tryz.call110,fun x0 => iF Tryz.func110⟩
instance t_aB:FI Tryz.prog 99 (∀ (x0:SPr),FnK Tryz.prog 99 [qPr x0] (fun r:Bool => [B r]) (fun _ => []) (zPW x0)):=⟨Tryz.call99,fun x0 => iF Tryz.func99⟩
instance t_au:FI Tryz.prog 103 (∀ (x0:zC) (x1:Int),FnK Tryz.prog 103 [T.ro ((Pt zV) x0),I x1] (fun r:zL => [(fun x => T.agg [I x.Prime,I x.yS,(Ro lM) x.Rows]) r]) (fun _ => []) (zIH x0 x1)):=⟨Tryz.call103,fun x0 x1 => iF Tryz.func103⟩
instance (x0:List Int) (x1:Int):LH (R:=Bool) (zLk x0 x1) [1,13,14] [] (fun s1 => [(15,I s1)]) (.xs (.xe 0 [1,13,14] fun _ => []) .xr):=⟨⟩
instance t_ag:FI Tryz.prog 152 (∀ (x0:List Int) (x1:Int) (x2:Int),FnK Tryz.prog 152 [T.ro (lV x0),I x1,I x2] (fun r:Bool => [B r]) (fun _ => []) (zO8 x0 x1 x2)):=⟨Tryz.call152,fun x0 x1 x2 => iF Tryz.func152⟩
instance (x0:zL):LH (R:=Bool) (zII x0) [1,22,23] [] (fun s1 => [(24,I s1)]) (.xs (.xe 0 [1,22,23] fun _ => []) .xr):=⟨⟩
instance t_E:FI Tryz.prog 102 (∀ (x0:zL),FnK Tryz.prog 102 [wR x0] (fun r:Bool => [B r]) (fun _ => []) (f_E x0)):=⟨Tryz.call102,fun x0 => iF Tryz.func102⟩
instance t_bf:FI Tryz.prog 203 (∀ (x0:Int) (x1:Int),FnK Tryz.prog 203 [(IK .u64) x0,(IK .u64) x1] (fun r:Int × Int => [(IK .u64) r.1,(IK .u64) r.2]) (fun _ => []) (zTI x0 x1)):=⟨Tryz.call203,fun x0 x1 => iF Tryz.func203⟩
instance t_aN:FI Tryz.prog 186 (∀ (x0:Int) (x1:Int),FnK Tryz.prog 186 [(IK .u64) x0,(IK .u64) x1] (fun r:Int × Int => [(IK .u64) r.1,(IK .u64) r.2]) (fun _ => []) (zO9 x0 x1)):=⟨Tryz.call186,fun x0 x1 => iF Tryz.func186⟩
end
theorem u_g (x0:List Int) (x1:Int) (r:(List Int)) (h:f_g x0 x1 = some r):FnC Tryz.prog 153 [T.ro (lV x0),I x1] [lV r] []:=by
 refine fB Tryz.func153 (fun St W w0 v => ?_)
 refine sR (oP (zEC 1 rfl) ?_)
 refine rN (CW.seq (sR (zX ?_)))
 refine vZ ?_
 refine rN (cn h (fun hc h => ?_) (fun hc h => ?_))
 ·refine CW.region ?_
  cases h
 ·refine CW.skip (nA (sR (zX ?_)))
  refine jY ?_
  refine oP (zGJ Tryz.underlying3 Tryz.underlying190 rfl rfl) ?_
  refine zX ?_
  refine oP (zGJ Tryz.underlying3 Tryz.underlying190 rfl rfl) ?_
  obtain ⟨r1,hr1,h⟩:=bd h
  refine cA Tryz.call186 (FnK.go (t_aN.h _ _) hr1) ?_
  refine zQ2 ?_
  refine zK9 ?_
  refine zK9 ?_
  refine yM ?_
  refine yM ?_
  refine rN (CW.seq (sR (zX ?_)))
  refine oP (zMV rfl rfl rfl) ?_
  refine zX ?_
  refine RW.cases 23 _ rfl (fun hc => ?_) (fun hc => ?_)
  ·have h:=cT hc h
   refine sk2 ?_
   refine sk2 ?_
   refine sP ?_
   refine rN (CW.condT rfl ?_)
   refine CW.region ?_
   cases h
  ·have h:=cF hc h
   refine zEN ?_
   refine RW.cons (zU.guard 2 false 23 (zMV rfl rfl rfl)) ?_
   refine sP ?_
   refine rN (cn h (fun hc h => ?_) (fun hc h => ?_))
   ·refine CW.region ?_
    cases h
   ·refine CW.skip (nA (sR (zX ?_)))
    refine oP (zGJ Tryz.underlying190 Tryz.underlying3 rfl rfl) ?_
    obtain ⟨m2,hm2,h⟩:=bd h
    refine oP (zAn (f:=I) (z:=0) elt_22 (rfl) hm2 rfl rfl rfl) ?_
    refine yM ?_
    refine RW.ghost (zN.tr 7 30 _ rfl rfl (zF (zM (Enc.clean (f:=I)))) rfl) ?_
    refine rN (CW.seq (CW.to [(0,T.ro (lV x0)),(7,L 1 I (List.replicate m2 (0:Int)))] ⟨rfl,rfl,trivial⟩ ?_))
    refine CW.region (zX ?_)
    refine zX ?_
    refine oP (zK3 elt_22 rfl (fun _ => (zB8.same rfl rfl)) (fun _ => (zEK.ro (wQ rfl rfl))) (Nat.zero_le _) (Nat.le_refl _) rfl) ?_
    refine yM ?_
    refine rN (CW.seq (CW.block ?_))
    obtain ⟨r6,hr6,h⟩:=bd h
    refine CW.lp (s:=(xX (List.replicate m2 (0:Int)) 0 (x0.take (((List.replicate m2 (0:Int)).length) - 0)),((min x0.length (((List.replicate m2 (0:Int)).length) - 0):Nat):Int))) sD (fun s1:(List Int) × Int => wB [(7,L 1 I s1.1),(8,I s1.2)]) (fun (r6:(List Int)) e E => e = .exit 0 ∧ zN ⟨St,W,w0,Tryz.f153.ntmps⟩ E (wB [(7,L 1 I r6)])) (.has ⟨rfl,rfl,trivial⟩) (fun s1 x h => ?_) hr6 (fun e E hq => ?_)
    ·refine CW.seq (sR (zX ?_))
     refine zX ?_
     refine zSy ?_
     refine vZ ?_
     refine rN (cn h (fun hc h => ?_) (fun hc h => ?_))
     ·refine CW.skip (nA (CW.block ?_))
      obtain ⟨v3,hv3,h⟩:=bd h
      obtain ⟨v4,hv4,h⟩:=bd h
      obtain ⟨v5,hv5,h⟩:=bd h
      refine CW.dk ?_
      refine xP [(8,_)] ?_
      refine xP [(7,_)] ?_
      refine xP [(8,_)] ?_
      refine dG [(39,_),(7,_),(40,_)] [([(41,some (T.sub 7 [] 1 ((s1.2:Int).toNat) ((s1.1.length:Int).toNat)))],[(41,0)])] ⟨rfl,rfl,rfl,trivial⟩ (fun E h => zU.opE (zMN row_22 hv3 (kN h.1 h.2.1 rfl rfl) (zQY (zGa hv3) h.2.2.1) zSo rfl) rfl) ?_
      refine xP [(7,_)] ?_
      refine xP [(8,_)] ?_
      refine dG [(42,_),(7,_),(43,_)] [([(44,some (T.sub 7 [] 1 ((0:Int).toNat) ((s1.2:Int).toNat)))],[(44,0)])] ⟨rfl,rfl,rfl,trivial⟩ (fun E h => zU.opE (zMN row_22 hv4 (kN h.1 h.2.1 rfl rfl) zSp (zQY (zGb hv4) h.2.2.1) rfl) rfl) ?_
      refine dG [(41,_),(7,_),(44,_)] [([(7,some (L 1 I (xX s1.1 ((s1.2:Int).toNat) (v4.take (((s1.1.length:Int).toNat) - ((s1.2:Int).toNat))))))],[(7,1)]),([(45,some (I ((min v4.length (((s1.1.length:Int).toNat) - ((s1.2:Int).toNat)):Nat):Int)))],[(45,0)])] ⟨rfl,rfl,rfl,trivial⟩ (fun E h => zU.opE (zK3 elt_22 h.2.1 (fun _ => (zB8.sub h.1)) (fun _ => (zEK.sub h.2.2.1 h.2.1 rfl hv4)) (zLy hv3) (zLz hv3) rfl) rfl) ?_
      refine zKB [(38,_),(45,_)] ?_
      refine zDh [(46,_)] ?_
      refine dNA wG ?_
      exact nB (eN h)
     ·refine CW.exit (xA ?_)
      exact eX h
    ·obtain ⟨rfl,hg⟩:=hq
     refine xB ?_
     refine nA (CW.ghost hg ?_)
     refine sR (zX ?_)
     refine yM ?_
     refine RW.ghost (zN.tr 4 7 _ rfl rfl (zF (zM (Enc.clean (f:=I)))) rfl) ?_
     refine rN (CW.ret ?_)
     obtain rfl:=sI h
     exact rT
instance t_g:FI Tryz.prog 153 (∀ (x0:List Int) (x1:Int),FnK Tryz.prog 153 [T.ro (lV x0),I x1] (fun r:(List Int) => [lV r]) (fun _ => []) (f_g x0 x1)):=⟨Tryz.call153,fun x0 x1 => FnK.mk (u_g x0 x1)⟩
section
attribute [local irreducible] RW CW DK OkL Ok xG xH wW vM XS.post rng uJ vQ ixO yB wJ vF yP zJ GTo zN FnC FnK vT tE Kp Lk BsL BuL RpL Bk Lc
instance (s5:(List Int) × Int) (v1:Int):LH (R:=(List Int)) (zOA s5 v1) [4,6,7,8,13] [] (fun s6 => [(3,L 1 I s6.1),(14,I s6.2)]) (.xe 2 [4,13] fun r5 => [(3,L 1 I r5)]):=⟨⟩
instance (x0:List Int):LH (R:=(List Int)) (zOB x0) [6,7] [] (fun s5 => [(3,L 1 I s5.1),(8,I s5.2)]) (.xe 0 [6,7] fun r7 => [(3,L 1 I r7)]):=⟨⟩
instance t_D:FI Tryz.prog 154 (∀ (x0:List Int),FnK Tryz.prog 154 [T.ro (lV x0)] (fun r:(List Int) => [lV r]) (fun _ => []) (f_D x0)):=⟨Tryz.call154,fun x0 => iF Tryz.func154⟩
instance (x0:SPr):LH (R:=(List ((List Int) × (List Int)))) (zOC x0) [0,14,15] [] (fun s1 => [(3,L 2 (A2 lV) s1.1),(16,I s1.2)]) (.xe 0 [14,15] fun r8 => [(3,L 2 (A2 lV) r8)]):=⟨⟩
instance (s7:(List ((List Int) × (List Int))) × Int) (v9:List (List Int)):LH (R:=(List ((List Int) × (List Int)))) (zOD s7 v9) [0,6,43,44,53,54] [] (fun s8 => [(3,L 2 (A2 lV) s8.1),(55,I s8.2)]) (.xe 4 [6,53,54] fun r18 => [(3,L 2 (A2 lV) r18)]):=⟨⟩
instance (x0:SPr):LH (R:=(List ((List Int) × (List Int)))) (zOE x0) [0,43] [] (fun s7 => [(3,L 2 (A2 lV) s7.1),(44,I s7.2)]) (.xe 2 [0,43] fun r20 => [(3,L 2 (A2 lV) r20)]):=⟨⟩
instance t_p:FI Tryz.prog 104 (∀ (x0:SPr),FnK Tryz.prog 104 [T.ro ((Pt xU) x0)] (fun r:(List ((List Int) × (List Int))) => [(L 2 (A2 lV)) r]) (fun _ => []) (f_p x0)):=⟨Tryz.call104,fun x0 => iF Tryz.func104⟩
end
theorem u_M (x0:Int) (x1:Int) (r:zL) (h:f_M x0 x1 = some r):FnC Tryz.prog 115 [I x0,I x1] [xT r] []:=by
 refine fB Tryz.func115 (fun St W w0 v => ?_)
 refine sR (vU ?_)
 refine rN (sR (zX ?_))
 refine zX ?_
 refine oP (jQ bld_41 [(0,.tmp 8),(1,.tmp 9)] [(0,.slot 8 (I x0)),(1,.slot 9 (I x1))] [.slot 8 (I x0),.slot 9 (I x1),.zero (L 1 lV [])] (pkS rfl (zF (Enc.clean (f:=I) _)) rfl (pkS rfl (zF (Enc.clean (f:=I) _)) rfl (pkZ rfl pkN))) (bqC (.slot _ _) (bqC (.slot _ _) bqN)) rfl) ?_
 refine vU ?_
 refine oP (vP zHe rfl (wQ rfl rfl) rfl rfl rfl rfl (zF (xL ⟨(Enc.clean (f:=I) _),(Enc.clean (f:=I) _),trivial,trivial⟩)) rfl) ?_
 refine rN (CW.seq (sR (zX ?_)))
 refine zX ?_
 refine rN (CW.block ?_)
 obtain ⟨r5,hr5,h⟩:=bd h
 refine CW.lp (s:=([],0)) (zOF x1) (fun s1:(List (List Int)) × Int => wB [(1,I x1),(4,T.ptr (T.agg [I 0,I 0,L 1 lV []])),(5,T.ptr (T.agg [I x0,I x1,L 1 lV s1.1])),(11,I x1),(12,I s1.2)]) (fun (r5:(List (List Int))) e E => e = .exit 0 ∧ zN ⟨St,W,w0,Tryz.f115.ntmps⟩ E (wB [(4,T.ptr (T.agg [I 0,I 0,L 1 lV []])),(5,T.ptr (T.agg [I x0,I x1,L 1 lV r5]))])) (.has ⟨rfl,rfl,rfl,rfl,rfl,trivial⟩) (fun s1 x h => ?_) hr5 (fun e E hq => ?_)
 refine sR (vZ ?_)
 refine rN (CW.seq (cn h (fun hc h => ?_) (fun hc h => ?_)))
 refine CW.skip (nA (CW.seq (CW.block (sR (zX ?_)))))
 refine yM ?_
 refine rN (sR (zX ?_))
 obtain ⟨m1,hm1,h⟩:=bd h
 refine oP (zAn (f:=I) (z:=0) elt_22 (rfl) hm1 rfl rfl rfl) ?_
 refine yM ?_
 refine RW.ghost (zN.tr 7 16 _ rfl rfl (zF (zM (Enc.clean (f:=I)))) rfl) ?_
 refine rN (sR (zX ?_))
 refine zX ?_
 obtain ⟨v2,hv2,h⟩:=bd h
 refine zL3 ?_
 refine oP (zGH zF6 rfl rfl rfl (zP hv2 rfl) (zAk hv2 rfl) rfl rfl) ?_
 refine rN (CW.region (zA6 ?_))
 refine zBw ?_
 refine zX ?_
 refine RW.ghost (zN.tr 22 7 _ rfl rfl (zF (zM (Enc.clean (f:=I)))) rfl) ?_
 refine oP (zDg elt_23 [.tmp 22] [.slot 22 (L 1 I ((List.replicate m1 (0:Int)).set s1.2.toNat 1))] [(List.replicate m1 (0:Int)).set s1.2.toNat 1] lV ⟨.slot _ _,trivial⟩ (pkS rfl (zF (zM (Enc.clean (f:=I)))) rfl pkN) rfl rfl) ?_
 refine RW.ghost (zN.trq 21 5 [2,0] rfl rfl rfl (zF (zM (Enc.clean (f:=lV)))) rfl) ?_
 obtain ⟨v3,hv3,h⟩:=bd h
 refine oP (zAj (f:=lV) elt_23 hv3 rfl rfl rfl) ?_
 refine zA6 ?_
 refine oP (zGG zJU rfl rfl rfl rfl rfl rfl (zF (zM (Enc.clean (f:=lV)))) rfl) ?_
 refine RW.nil ?_
 refine nB (nA (CW.region ?_))
 obtain ⟨v4,hv4,h⟩:=bd h
 refine tY ?_
 refine zX ?_
 refine RW.nil ?_
 exact eN h
 refine CW.exit (xA ?_)
 exact eX h
 obtain ⟨rfl,hg⟩:=hq
 refine xB ?_
 refine nA (CW.ghost hg ?_)
 refine sR (vL ?_)
 refine RW.ghost (zN.trf 27 [2] 5 [2,0] _ _ rfl rfl rfl rfl rfl (zF (zM (Enc.clean (f:=lV)))) rfl) ?_
 refine oP (vP zHe rfl (wQ rfl rfl) rfl rfl rfl rfl (zF (xL ⟨(Enc.clean (f:=I) _),(Enc.clean (f:=I) _),(zM (Enc.clean (f:=lV))),trivial⟩)) rfl) ?_
 refine rN (CW.ret ?_)
 obtain rfl:=sI h
 exact ⟨_,zN.refl,⟨.inl rfl,[(4,[0],T.agg [I x0,I x1,L 1 lV r5])],⟨⟨rfl,rfl,rfl,(var_41.h _ rfl rfl).h⟩,trivial⟩,rfl,(by simp),(by simp),trivial⟩⟩
instance t_M:FI Tryz.prog 115 (∀ (x0:Int) (x1:Int),FnK Tryz.prog 115 [I x0,I x1] (fun r:zL => [xT r]) (fun _ => []) (f_M x0 x1)):=⟨Tryz.call115,fun x0 x1 => FnK.mk (u_M x0 x1)⟩
section
attribute [local irreducible] RW CW DK OkL Ok xG xH wW vM XS.post rng uJ vQ ixO yB wJ vF yP zJ GTo zN FnC FnK vT tE Kp Lk BsL BuL RpL Bk Lc
instance t_aM:FI Tryz.prog 161 (∀ (x0:Int) (x1:Int),FnK Tryz.prog 161 [I x0,I x1] (fun r:Int => [I r]) (fun _ => []) (zLZ x0 x1)):=⟨Tryz.call161,fun x0 x1 => iF Tryz.func161⟩
instance (x0:List Int) (x1:List Int) (x2:Int) (x3:Int):LH (R:=(List Int)) (zIJ x0 x1 x2 x3) [1,2,3,10] [] (fun s1 => [(0,L 1 I s1.1),(11,I s1.2)]) (.xe 0 [1,2,3,10] fun r8 => [(0,L 1 I r8)]):=⟨⟩
instance t_I:FI Tryz.prog 111 (∀ (x0:List Int) (x1:List Int) (x2:Int) (x3:Int),FnK Tryz.prog 111 [L 1 I x0,T.ro (lV x1),I x2,I x3] (fun _:(List Int) => []) (fun r => [(0,lV r)]) (f_I x0 x1 x2 x3)):=⟨Tryz.call111,fun x0 x1 x2 x3 => iF Tryz.func111⟩
instance (x0:List Int) (x1:zL):LH (R:=(List Int)) (zIK x0 x1) [3,11,12] [] (fun s1 => [(5,L 1 I s1.1),(13,I s1.2)]) (.xe 0 [3,11,12] fun r6 => [(5,L 1 I r6)]):=⟨⟩
instance t_F:FI Tryz.prog 57 (∀ (x0:List Int) (x1:zL),FnK Tryz.prog 57 [T.ro (lV x0),wR x1] (fun r:(List Int) => [lV r]) (fun _ => []) (f_F x0 x1)):=⟨Tryz.call57,fun x0 x1 => iF Tryz.func57⟩
instance:GHs Tryz.f157.results:=⟨⟩
instance:GH Tryz.f157.results 0 26 0 (.trq 21 5 [2,0]):=⟨⟩
instance:GH Tryz.f157.results 1 4 0 (.trf 29 2 5 [2,0]):=⟨⟩
instance (x0:zL) (x1:zL):LH (R:=zL) (zIL x0 x1) [3,4,14,15] [] (fun s1 => [(5,T.ptr (T.agg [I x0.Prime,I x1.yS,L 1 lV s1.1])),(16,I s1.2)]) (.xe 0 [3,14,15] fun r5 => [(5,T.ptr (T.agg [I x0.Prime,I x1.yS,L 1 lV r5]))]):=⟨⟩
instance t_B:FI Tryz.prog 157 (∀ (x0:zL) (x1:zL),FnK Tryz.prog 157 [wR x0,wR x1] (fun r:zL => [xT r]) (fun _ => []) (f_B x0 x1)):=⟨Tryz.call157,fun x0 x1 => iF Tryz.func157⟩
instance (x0:zC) (x1:List Int):LH (R:=zL) (zOG x0 x1) [0,4,17,18] [] (fun s1 => [(5,T.ptr (T.agg [I s1.1,I s1.2.1,L 1 lV s1.2.2.1])),(19,I s1.2.2.2)]) (.xe 0 [0,17,18] fun r7 => [(5,T.ptr (T.agg [I r7.1,I r7.2.1,L 1 lV r7.2.2]))]):=⟨⟩
instance t_N:FI Tryz.prog 106 (∀ (x0:zC) (x1:List Int),FnK Tryz.prog 106 [T.ro ((Pt zV) x0),T.ro (lV x1)] (fun r:zL => [xT r]) (fun _ => []) (f_N x0 x1)):=⟨Tryz.call106,fun x0 x1 => iF Tryz.func106⟩
instance (x0:List (List Int)) (x1:List (List Int)):LH (R:=Bool) (zOH x0 x1) [1,2,15,16] [] (fun s1 => [(17,I s1)]) (.xs (.xe 0 [1,2,15,16] fun _ => []) .xr):=⟨⟩
instance t_aJ:FI Tryz.prog 155 (∀ (x0:List (List Int)) (x1:List (List Int)),FnK Tryz.prog 155 [T.ro (lM x0),T.ro (lM x1),T.lit (.func (.func 156) #[] #[])] (fun r:Bool => [B r]) (fun _ => []) (zRP x0 x1)):=⟨Tryz.call155,fun x0 x1 => iF Tryz.func155⟩
instance t_aO:FI Tryz.prog 105 (∀ (x0:List (List Int)) (x1:List (List Int)),FnK Tryz.prog 105 [T.ro (lM x0),T.ro (lM x1)] (fun r:Bool => [B r]) (fun _ => []) (zOI x0 x1)):=⟨Tryz.call105,fun x0 x1 => iF Tryz.func105⟩
end
end Go.Wk

namespace Go.Wk
open Go Go.Proofs Go.Ab
set_option maxRecDepth 100000
set_option maxHeartbeats 4000000
theorem u_q (x0:SPr) (x1:zC) (r:Bool) (h:f_q x0 x1 = some r):FnC Tryz.prog 53 [T.ro ((Pt xU) x0),T.ro ((Pt zV) x1)] [B r] []:=by
 refine fB Tryz.func53 (fun St W w0 v => ?_)
 refine sR (yM ?_)
 refine rN (CW.seq (CW.seq ?_))
 obtain ⟨r1,hr1,h⟩:=bd h
 refine CW.casesB (!r1) (fun hc0 => ?_) (fun hc0 => ?_)
 have h:=cT hc0 h
 refine CW.dk ?_
 refine xP [(0,_)] ?_
 refine zAL [(9,_)] ?_
 refine zA0 [(10,_)] ?_
 refine dC [(11,_)] Tryz.call99 (FnK.go (t_aB.h _) hr1) ?_
 refine dG [(12,_)] [([(13,some (B true))],[(13,0)])] ⟨rfl,trivial⟩ (fun E h => zU.opE (zAm hc0 (kO h.1 rfl)) rfl) ?_
 refine xP [(13,_)] ?_
 refine wT ?_
 refine wT ?_
 refine wT ?_
 refine wT ?_
 refine wT ?_
 refine wT ?_
 refine qH [(14,_)] ?_
 refine xP [(21,_)] ?_
 refine wT ?_
 refine wT ?_
 refine wT ?_
 refine wT ?_
 refine wT ?_
 refine wT ?_
 refine qH [(22,_)] ?_
 refine xP [(29,_)] ?_
 refine wT ?_
 refine wT ?_
 refine wT ?_
 refine wT ?_
 refine wT ?_
 refine wT ?_
 refine wT ?_
 refine wT ?_
 refine wT ?_
 refine wT ?_
 refine wT ?_
 refine qH [(30,_)] ?_
 refine dN ([] :: [0] :: [0,1] :: [0,1,2] :: [0,1,2,3] :: [0,1,2,3,4] :: [0,1,2,3,4,5] :: [0,1,2,3,4,5,6] :: [0,1,2,3,4,5,6,7] :: [0,1,2,3,4,5,6,7,8] :: [0,1,2,3,4,5,6,7,8,9] :: [0,1,2,3,4,5,6,7,8,9,10] :: [0,1,2,3,4,5,6,7,8,9,10,11] :: [0,1,2,3,4,5,6,7,8,9,10,11,12] :: [0,1,2,3,4,5,6,7,8,9,10,11,12,13] :: [0,1,2,3,4,5,6,7,8,9,10,11,12,13,14] :: [0,1,2,3,4,5,6,7,8,9,10,11,12,13,14,15] :: [0,1,2,3,4,5,6,7,8,9,10,11,12,13,14,15,16] :: [0,1,2,3,4,5,6,7,8,9,10,11,12,13,14,15,16,17] :: [0,1,2,3,4,5,6,7,8,9,10,11,12,13,14,15,16,17,18] :: [0,1,2,3,4,5,6,7,8,9,10,11,12,13,14,15,16,17,18,19] :: [0,1,2,3,4,5,6,7,8,9,10,11,12,13,14,15,16,17,18,19,20] :: [0,1,2,3,4,5,6,7,8,9,10,11,12,13,14,15,16,17,18,19,20,21] :: [0,1,2,3,4,5,6,7,8,9,10,11,12,13,14,15,16,17,18,19,20,21,22] :: [0,1,2,3,4,5,6,7,8,9,10,11,12,13,14,15,16,17,18,19,20,21,22,23] :: [0,1,2,3,4,5,6,7,8,9,10,11,12,13,14,15,16,17,18,19,20,21,22,23,24] :: [0,1,2,3,4,5,6,7,8,9,10,11,12,13,14,15,16,17,18,19,20,21,22,23,24,25] :: [0,1,2,3,4,5,6,7,8,9,10,11,12,13,14,15,16,17,18,19,20,21] :: [0,1,2,3,4,5,6,7,8,9,10,11,12,13,14,15,16,17,18,19,20,21,27] :: [0,1,2,3,4,5,6,7,8,9,10,11,12,13,14,15,16,17,18,19,20,21,27,28] :: [0,1,2,3,4,5,6,7,8,9,10,11,12,13,14,15,16,17,18,19,20,21,27,28,29] :: [0,1,2,3,4,5,6,7,8,9,10,11,12,13,14,15,16,17,18,19,20,21,27,28,29,30] :: [0,1,2,3,4,5,6,7,8,9,10,11,12,13,14,15,16,17,18,19,20,21,22,23,24,25,26,27,28,29,30,31] :: [0,1,2,3,4,5,6,7,8,9,10,11,12,13,14,15,16,17,18,19,20,21,22,23,24,25,26,27,28,29,30,31,32] :: []) wG ?_
 refine nA (CW.condT rfl ?_)
 refine CW.seq (CW.to [] trivial ?_)
 refine CW.region (yM ?_)
 refine rN (CW.ret (rA ?_))
 obtain rfl:=sI h
 exact rT
 have h:=cF hc0 h
 obtain ⟨r2,hr2,h⟩:=bd h
 refine CW.casesB (!r2) (fun hc1 => ?_) (fun hc1 => ?_)
 have h:=cT hc1 h
 refine CW.dk ?_
 refine xP [(0,_)] ?_
 refine zAL [(9,_)] ?_
 refine zA0 [(10,_)] ?_
 refine dC [(11,_)] Tryz.call99 (FnK.go (t_aB.h _) hr1) ?_
 refine dG [(12,_)] [([(13,some (B false))],[(13,0)])] ⟨rfl,trivial⟩ (fun E h => zU.opE (zAm hc0 (kO h.1 rfl)) rfl) ?_
 refine xP [(13,_)] ?_
 refine zJj [(1,_),(14,_)] ?_
 refine zCc [(15,_),(14,_)] ?_
 refine zEQ [(16,_),(14,_)] ?_
 refine zEP [(17,_),(14,_)] ?_
 refine dG [(18,_),(14,_)] [([(19,some (B r2))],[(19,0)])] ⟨rfl,rfl,trivial⟩ (fun E h => zU.guardE 5 false 14 (yJ (xs:=[.tmp 18]) Tryz.call100 (FnK.go (t_ap.h _) hr2) ⟨(agC _ h.1 rfl rfl),trivial⟩ (wF (f:=B) inferInstance wK) rfl) rfl rfl h.2.1 rfl) ?_
 refine dG [(19,_),(14,_)] [([(20,some (B true))],[(20,0)])] ⟨rfl,rfl,trivial⟩ (fun E h => zU.guardE 5 false 14 (zAm hc1 (kO h.1 rfl)) rfl rfl h.2.1 rfl) ?_
 refine qH [(14,_),(20,_)] ?_
 refine xP [(21,_)] ?_
 refine wT ?_
 refine wT ?_
 refine wT ?_
 refine wT ?_
 refine wT ?_
 refine wT ?_
 refine qH [(22,_)] ?_
 refine xP [(29,_)] ?_
 refine wT ?_
 refine wT ?_
 refine wT ?_
 refine wT ?_
 refine wT ?_
 refine wT ?_
 refine wT ?_
 refine wT ?_
 refine wT ?_
 refine wT ?_
 refine wT ?_
 refine qH [(30,_)] ?_
 refine dN ([] :: [0] :: [0,1] :: [0,1,2] :: [0,1,2,3] :: [0,1,2,3,4] :: [0,1,2,3,4,5] :: [0,1,2,3,4,5,6] :: [0,1,2,3,4,5,6,7] :: [0,1,2,3,4,5,6,7,8] :: [0,1,2,3,4,5,6,7,8,9] :: [0,1,2,3,4,5,6,7,8,9,10] :: [0,1,2,3,4,5,6,7,8,9,10,11] :: [0,1,2,3,4,5,6,7,8,9,10,11,12] :: [0,1,2,3,4,5,6,7,8,9,10,11,12,13] :: [0,1,2,3,4,5,6,7,8,9,10,11,12,13,14] :: [0,1,2,3,4,5,6,7,8,9,10,11,12,13,14,15] :: [0,1,2,3,4,5,6,7,8,9,10,11,12,13,14,15,16] :: [0,1,2,3,4,5,6,7,8,9,10,11,12,13,14,15,16,17] :: [0,1,2,3,4,5,6,7,8,9,10,11,12,13,14,15,16,17,18] :: [0,1,2,3,4,5,6,7,8,9,10,11,12,13,14,15,16,17,18,19] :: [0,1,2,3,4,5,6,7,8,9,10,11,12,13,14,15,16,17,18,19,20] :: [0,1,2,3,4,5,6,7,8,9,10,11,12,13,14,15,16,17,18,19,20,21] :: [0,1,2,3,4,5,6,7,8,9,10,11,12,13,14,15,16,17,18,19,20,21,22] :: [0,1,2,3,4,5,6,7,8,9,10,11,12,13,14,15,16,17,18,19,20,21,22,23] :: [0,1,2,3,4,5,6,7,8,9,10,11,12,13,14,15,16,17,18,19,20,21,22,23,24] :: [0,1,2,3,4,5,6,7,8,9,10,11,12,13,14,15,16,17,18,19,20,21,22,23,24,25] :: [0,1,2,3,4,5,6,7,8,9,10,11,12,13,14,15,16,17,18,19,20,21] :: [0,1,2,3,4,5,6,7,8,9,10,11,12,13,14,15,16,17,18,19,20,21,27] :: [0,1,2,3,4,5,6,7,8,9,10,11,12,13,14,15,16,17,18,19,20,21,27,28] :: [0,1,2,3,4,5,6,7,8,9,10,11,12,13,14,15,16,17,18,19,20,21,27,28,29] :: [0,1,2,3,4,5,6,7,8,9,10,11,12,13,14,15,16,17,18,19,20,21,27,28,29,30] :: [0,1,2,3,4,5,6,7,8,9,10,11,12,13,14,15,16,17,18,19,20,21,22,23,24,25,26,27,28,29,30,31] :: [0,1,2,3,4,5,6,7,8,9,10,11,12,13,14,15,16,17,18,19,20,21,22,23,24,25,26,27,28,29,30,31,32] :: []) wG ?_
 refine nA (CW.condT rfl ?_)
 refine CW.seq (CW.to [] trivial ?_)
 refine CW.region (yM ?_)
 refine rN (CW.ret (rA ?_))
 obtain rfl:=sI h
 exact rT
 have h:=cF hc1 h
 obtain ⟨r3,hr3,h⟩:=bd h
 refine CW.casesB (!r3) (fun hc2 => ?_) (fun hc2 => ?_)
 have h:=cT hc2 h
 refine CW.dk ?_
 refine xP [(0,_)] ?_
 refine zAL [(9,_)] ?_
 refine zA0 [(10,_)] ?_
 refine dC [(11,_)] Tryz.call99 (FnK.go (t_aB.h _) hr1) ?_
 refine dG [(12,_)] [([(13,some (B false))],[(13,0)])] ⟨rfl,trivial⟩ (fun E h => zU.opE (zAm hc0 (kO h.1 rfl)) rfl) ?_
 refine xP [(13,_)] ?_
 refine zJj [(1,_),(14,_)] ?_
 refine zCc [(15,_),(14,_)] ?_
 refine zEQ [(16,_),(14,_)] ?_
 refine zEP [(17,_),(14,_)] ?_
 refine dG [(18,_),(14,_)] [([(19,some (B r2))],[(19,0)])] ⟨rfl,rfl,trivial⟩ (fun E h => zU.guardE 5 false 14 (yJ (xs:=[.tmp 18]) Tryz.call100 (FnK.go (t_ap.h _) hr2) ⟨(agC _ h.1 rfl rfl),trivial⟩ (wF (f:=B) inferInstance wK) rfl) rfl rfl h.2.1 rfl) ?_
 refine dG [(19,_),(14,_)] [([(20,some (B false))],[(20,0)])] ⟨rfl,rfl,trivial⟩ (fun E h => zU.guardE 5 false 14 (zAm hc1 (kO h.1 rfl)) rfl rfl h.2.1 rfl) ?_
 refine qH [(14,_),(20,_)] ?_
 refine xP [(21,_)] ?_
 refine zJj [(1,_),(22,_)] ?_
 refine zCc [(23,_),(22,_)] ?_
 refine zEQ [(24,_),(22,_)] ?_
 refine zEP [(25,_),(22,_)] ?_
 refine dG [(26,_),(22,_)] [([(27,some (B r3))],[(27,0)])] ⟨rfl,rfl,trivial⟩ (fun E h => zU.guardE 13 false 22 (yJ (xs:=[.tmp 26,.const _,.const _]) Tryz.call101 (FnK.go (t_ao.h _ _ _) hr3) ⟨(agC _ h.1 rfl rfl),⟨(agC _ rfl rfl rfl),⟨(agC _ rfl rfl rfl),trivial⟩⟩⟩ (wF (f:=B) inferInstance wK) rfl) rfl rfl h.2.1 rfl) ?_
 refine dG [(27,_),(22,_)] [([(28,some (B true))],[(28,0)])] ⟨rfl,rfl,trivial⟩ (fun E h => zU.guardE 13 false 22 (zAm hc2 (kO h.1 rfl)) rfl rfl h.2.1 rfl) ?_
 refine qH [(22,_),(28,_)] ?_
 refine xP [(29,_)] ?_
 refine wT ?_
 refine wT ?_
 refine wT ?_
 refine wT ?_
 refine wT ?_
 refine wT ?_
 refine wT ?_
 refine wT ?_
 refine wT ?_
 refine wT ?_
 refine wT ?_
 refine qH [(30,_)] ?_
 refine dN ([] :: [0] :: [0,1] :: [0,1,2] :: [0,1,2,3] :: [0,1,2,3,4] :: [0,1,2,3,4,5] :: [0,1,2,3,4,5,6] :: [0,1,2,3,4,5,6,7] :: [0,1,2,3,4,5,6,7,8] :: [0,1,2,3,4,5,6,7,8,9] :: [0,1,2,3,4,5,6,7,8,9,10] :: [0,1,2,3,4,5,6,7,8,9,10,11] :: [0,1,2,3,4,5,6,7,8,9,10,11,12] :: [0,1,2,3,4,5,6,7,8,9,10,11,12,13] :: [0,1,2,3,4,5,6,7,8,9,10,11,12,13,14] :: [0,1,2,3,4,5,6,7,8,9,10,11,12,13,14,15] :: [0,1,2,3,4,5,6,7,8,9,10,11,12,13,14,15,16] :: [0,1,2,3,4,5,6,7,8,9,10,11,12,13,14,15,16,17] :: [0,1,2,3,4,5,6,7,8,9,10,11,12,13,14,15,16,17,18] :: [0,1,2,3,4,5,6,7,8,9,10,11,12,13,14,15,16,17,18,19] :: [0,1,2,3,4,5,6,7,8,9,10,11,12,13,14,15,16,17,18,19,20] :: [0,1,2,3,4,5,6,7,8,9,10,11,12,13,14,15,16,17,18,19,20,21] :: [0,1,2,3,4,5,6,7,8,9,10,11,12,13,14,15,16,17,18,19,20,21,22] :: [0,1,2,3,4,5,6,7,8,9,10,11,12,13,14,15,16,17,18,19,20,21,22,23] :: [0,1,2,3,4,5,6,7,8,9,10,11,12,13,14,15,16,17,18,19,20,21,22,23,24] :: [0,1,2,3,4,5,6,7,8,9,10,11,12,13,14,15,16,17,18,19,20,21,22,23,24,25] :: [0,1,2,3,4,5,6,7,8,9,10,11,12,13,14,15,16,17,18,19,20,21] :: [0,1,2,3,4,5,6,7,8,9,10,11,12,13,14,15,16,17,18,19,20,21,27] :: [0,1,2,3,4,5,6,7,8,9,10,11,12,13,14,15,16,17,18,19,20,21,27,28] :: [0,1,2,3,4,5,6,7,8,9,10,11,12,13,14,15,16,17,18,19,20,21,27,28,29] :: [0,1,2,3,4,5,6,7,8,9,10,11,12,13,14,15,16,17,18,19,20,21,27,28,29,30] :: [0,1,2,3,4,5,6,7,8,9,10,11,12,13,14,15,16,17,18,19,20,21,22,23,24,25,26,27,28,29,30,31] :: [0,1,2,3,4,5,6,7,8,9,10,11,12,13,14,15,16,17,18,19,20,21,22,23,24,25,26,27,28,29,30,31,32] :: []) wG ?_
 refine nA (CW.condT rfl ?_)
 refine CW.seq (CW.to [] trivial ?_)
 refine CW.region (yM ?_)
 refine rN (CW.ret (rA ?_))
 obtain rfl:=sI h
 exact rT
 have h:=cF hc2 h
 refine CW.dk ?_
 refine xP [(0,_)] ?_
 refine zAL [(9,_)] ?_
 refine zA0 [(10,_)] ?_
 refine dC [(11,_)] Tryz.call99 (FnK.go (t_aB.h _) hr1) ?_
 refine dG [(12,_)] [([(13,some (B false))],[(13,0)])] ⟨rfl,trivial⟩ (fun E h => zU.opE (zAm hc0 (kO h.1 rfl)) rfl) ?_
 refine xP [(13,_)] ?_
 refine zJj [(1,_),(14,_)] ?_
 refine zCc [(15,_),(14,_)] ?_
 refine zEQ [(16,_),(14,_)] ?_
 refine zEP [(17,_),(14,_)] ?_
 refine dG [(18,_),(14,_)] [([(19,some (B r2))],[(19,0)])] ⟨rfl,rfl,trivial⟩ (fun E h => zU.guardE 5 false 14 (yJ (xs:=[.tmp 18]) Tryz.call100 (FnK.go (t_ap.h _) hr2) ⟨(agC _ h.1 rfl rfl),trivial⟩ (wF (f:=B) inferInstance wK) rfl) rfl rfl h.2.1 rfl) ?_
 refine dG [(19,_),(14,_)] [([(20,some (B false))],[(20,0)])] ⟨rfl,rfl,trivial⟩ (fun E h => zU.guardE 5 false 14 (zAm hc1 (kO h.1 rfl)) rfl rfl h.2.1 rfl) ?_
 refine qH [(14,_),(20,_)] ?_
 refine xP [(21,_)] ?_
 refine zJj [(1,_),(22,_)] ?_
 refine zCc [(23,_),(22,_)] ?_
 refine zEQ [(24,_),(22,_)] ?_
 refine zEP [(25,_),(22,_)] ?_
 refine dG [(26,_),(22,_)] [([(27,some (B r3))],[(27,0)])] ⟨rfl,rfl,trivial⟩ (fun E h => zU.guardE 13 false 22 (yJ (xs:=[.tmp 26,.const _,.const _]) Tryz.call101 (FnK.go (t_ao.h _ _ _) hr3) ⟨(agC _ h.1 rfl rfl),⟨(agC _ rfl rfl rfl),⟨(agC _ rfl rfl rfl),trivial⟩⟩⟩ (wF (f:=B) inferInstance wK) rfl) rfl rfl h.2.1 rfl) ?_
 refine dG [(27,_),(22,_)] [([(28,some (B false))],[(28,0)])] ⟨rfl,rfl,trivial⟩ (fun E h => zU.guardE 13 false 22 (zAm hc2 (kO h.1 rfl)) rfl rfl h.2.1 rfl) ?_
 refine qH [(22,_),(28,_)] ?_
 refine xP [(29,_)] ?_
 refine zJj [(1,_),(30,_)] ?_
 refine zCc [(31,_),(30,_)] ?_
 refine zEQ [(32,_),(30,_)] ?_
 refine zEP [(33,_),(30,_)] ?_
 refine zNi [(34,_),(30,_)] ?_
 refine zJj [(0,_),(30,_)] ?_
 refine zCc [(36,_),(30,_)] ?_
 refine zEQ [(37,_),(30,_)] ?_
 refine zEP [(38,_),(30,_)] ?_
 refine zNi [(39,_),(30,_)] ?_
 refine zSz [(35,_),(40,_),(30,_)] ?_
 refine qH [(30,_),(41,_)] ?_
 refine dN ([] :: [0] :: [0,1] :: [0,1,2] :: [0,1,2,3] :: [0,1,2,3,4] :: [0,1,2,3,4,5] :: [0,1,2,3,4,5,6] :: [0,1,2,3,4,5,6,7] :: [0,1,2,3,4,5,6,7,8] :: [0,1,2,3,4,5,6,7,8,9] :: [0,1,2,3,4,5,6,7,8,9,10] :: [0,1,2,3,4,5,6,7,8,9,10,11] :: [0,1,2,3,4,5,6,7,8,9,10,11,12] :: [0,1,2,3,4,5,6,7,8,9,10,11,12,13] :: [0,1,2,3,4,5,6,7,8,9,10,11,12,13,14] :: [0,1,2,3,4,5,6,7,8,9,10,11,12,13,14,15] :: [0,1,2,3,4,5,6,7,8,9,10,11,12,13,14,15,16] :: [0,1,2,3,4,5,6,7,8,9,10,11,12,13,14,15,16,17] :: [0,1,2,3,4,5,6,7,8,9,10,11,12,13,14,15,16,17,18] :: [0,1,2,3,4,5,6,7,8,9,10,11,12,13,14,15,16,17,18,19] :: [0,1,2,3,4,5,6,7,8,9,10,11,12,13,14,15,16,17,18,19,20] :: [0,1,2,3,4,5,6,7,8,9,10,11,12,13,14,15,16,17,18,19,20,21] :: [0,1,2,3,4,5,6,7,8,9,10,11,12,13,14,15,16,17,18,19,20,21,22] :: [0,1,2,3,4,5,6,7,8,9,10,11,12,13,14,15,16,17,18,19,20,21,22,23] :: [0,1,2,3,4,5,6,7,8,9,10,11,12,13,14,15,16,17,18,19,20,21,22,23,24] :: [0,1,2,3,4,5,6,7,8,9,10,11,12,13,14,15,16,17,18,19,20,21,22,23,24,25] :: [0,1,2,3,4,5,6,7,8,9,10,11,12,13,14,15,16,17,18,19,20,21] :: [0,1,2,3,4,5,6,7,8,9,10,11,12,13,14,15,16,17,18,19,20,21,27] :: [0,1,2,3,4,5,6,7,8,9,10,11,12,13,14,15,16,17,18,19,20,21,27,28] :: [0,1,2,3,4,5,6,7,8,9,10,11,12,13,14,15,16,17,18,19,20,21,27,28,29] :: [0,1,2,3,4,5,6,7,8,9,10,11,12,13,14,15,16,17,18,19,20,21,27,28,29,30] :: [0,1,2,3,4,5,6,7,8,9,10,11,12,13,14,15,16,17,18,19,20,21,22,23,24,25,26,27,28,29,30,31] :: [0,1,2,3,4,5,6,7,8,9,10,11,12,13,14,15,16,17,18,19,20,21,22,23,24,25,26,27,28,29,30,31,32] :: []) wG ?_
 refine nA (cn h (fun hc h => ?_) (fun hc h => ?_))
 refine CW.seq (CW.to [] trivial ?_)
 refine CW.region (yM ?_)
 refine rN (CW.ret (rA ?_))
 obtain rfl:=sI h
 exact rT
 refine CW.skip (nA (CW.seq (CW.seq (CW.to [(0,T.ro ((Pt xU) x0)),(1,T.ro ((Pt zV) x1))] ⟨rfl,rfl,trivial⟩ ?_))))
 refine CW.region (zX ?_)
 refine zEO ?_
 refine zHN ?_
 refine qB ?_
 refine jY ?_
 refine zX ?_
 refine rN (CW.block ?_)
 obtain ⟨r8,hr8,h⟩:=bd h
 refine CW.lp (s:=0) (zOJ x1) (fun s1:Int => wB [(0,T.ro ((Pt xU) x0)),(1,T.ro ((Pt zV) x1)),(46,T.ro (lC x1.zE)),(47,I (x1.zE.length:Int)),(48,I s1)]) (fun (x:Unit ⊕ Bool) e E => match x with | (.inl r8) => e = .exit 0 ∧ zN ⟨St,W,w0,Tryz.f53.ntmps⟩ E (wB [(0,T.ro ((Pt xU) x0)),(1,T.ro ((Pt zV) x1))]) | (.inr r8) => e = .ret ∧ vM ⟨St,W,w0,Tryz.f53.ntmps⟩ Tryz.prog Tryz.f53.results [T.ro ((Pt xU) x0),T.ro ((Pt zV) x1)] [B r8] [] .ret E) (.has ⟨rfl,rfl,rfl,rfl,rfl,trivial⟩) (fun s1 x h => ?_) hr8 (fun e E hq => ?_)
 refine sR (vZ ?_)
 refine rN (CW.seq (cn h (fun hc h => ?_) (fun hc h => ?_)))
 refine CW.skip (nA (CW.seq (CW.block (sR (zX ?_)))))
 obtain ⟨v4,hv4,h⟩:=bd h
 refine zBA ?_
 refine qB ?_
 refine yM ?_
 refine yM ?_
 refine rN (sR (zX ?_))
 refine jY ?_
 refine zX ?_
 refine zEO ?_
 refine zHN ?_
 refine qB ?_
 refine zNf ?_
 refine zX ?_
 refine RW.cases 60 _ rfl (fun hc => ?_) (fun hc => ?_)
 have h:=cT hc h
 refine sk2 ?_
 refine sk2 ?_
 refine sk2 ?_
 refine sk2 ?_
 refine sk2 ?_
 refine sP ?_
 refine rN (CW.condT rfl ?_)
 refine sR (yM ?_)
 refine rN (CW.ret (rB ?_))
 exact rA (eX h)
 have h:=cF hc h
 refine zEN ?_
 refine zEN ?_
 obtain ⟨r5,hr5,h⟩:=bd h
 refine RW.cons (zU.guard 7 false 60 (qP (xs:=[.tmp 61,.tmp 62]) Tryz.call103 (FnK.go (t_au.h _ _) hr5) (afC rfl rfl (afC rfl rfl afN)) rfl ⟨(xL ⟨(Enc.clean (f:=I) _),(Enc.clean (f:=I) _),trivial,trivial⟩),trivial⟩ rfl rfl)) ?_
 obtain ⟨r6,hr6,h⟩:=bd h
 refine RW.cons (zU.guard 7 false 60 (yJ (xs:=[.tmp 63]) Tryz.call102 (FnK.go (t_E.h _) hr6) ⟨(agC _ rfl rfl rfl),trivial⟩ (wF (f:=B) inferInstance wK) rfl)) ?_
 refine zQ0 ?_
 refine sP ?_
 refine rN (cn h (fun hc h => ?_) (fun hc h => ?_))
 refine sR (yM ?_)
 refine rN (CW.ret (rB ?_))
 exact rA (eX h)
 refine CW.skip (nB (nA (CW.region ?_)))
 obtain ⟨v7,hv7,h⟩:=bd h
 refine tY ?_
 refine zX ?_
 refine RW.nil ?_
 exact eN h
 refine CW.exit (xA ?_)
 exact eX h
 rcases r8 with r8 | r8
 obtain ⟨rfl,hg⟩:=hq
 refine xB ?_
 refine nA (CW.ghost hg ?_)
 refine CW.seq (sR (zX ?_))
 obtain ⟨r9,hr9,h⟩:=bd h
 refine cA Tryz.call104 (FnK.go (t_p.h _) hr9) ?_
 refine RW.ghost (zN.frz 69 (k:=2) (f:=(A2 lV)) (g:=(A2 lV)) r9 rfl inferInstance) ?_
 refine jY ?_
 refine zX ?_
 refine rN (CW.block ?_)
 obtain ⟨r15,hr15,h⟩:=bd h
 refine CW.lp (s:=0) (zOK x1 r9) (fun s3:Int => wB [(1,T.ro ((Pt zV) x1)),(69,T.ro ((L 2 (A2 lV)) r9)),(70,I (r9.length:Int)),(71,I s3)]) (fun (x:Unit ⊕ Bool) e E => match x with | (.inl r15) => e = .exit 2 ∧ zN ⟨St,W,w0,Tryz.f53.ntmps⟩ E (wB []) | (.inr r15) => e = .ret ∧ vM ⟨St,W,w0,Tryz.f53.ntmps⟩ Tryz.prog Tryz.f53.results [T.ro ((Pt xU) x0),T.ro ((Pt zV) x1)] [B r15] [] .ret E) (.has ⟨rfl,rfl,rfl,rfl,trivial⟩) (fun s3 x h => ?_) hr15 (fun e E hq => ?_)
 refine sR (vZ ?_)
 refine rN (CW.seq (cn h (fun hc h => ?_) (fun hc h => ?_)))
 refine CW.skip (nA (CW.seq (CW.block (sR ?_))))
 obtain ⟨v10,hv10,h⟩:=bd h
 refine zBA ?_
 refine qB ?_
 refine vU ?_
 refine oP (vP zLm rfl (wQ rfl rfl) rfl rfl rfl rfl (zF (xL ⟨trivial,trivial,trivial⟩)) rfl) ?_
 refine rN (CW.seq ?_)
 obtain ⟨r11,hr11,h⟩:=bd h
 obtain ⟨r12,hr12,h⟩:=bd h
 obtain ⟨r13,hr13,h⟩:=bd h
 refine CW.dk ?_
 refine xP [(1,_)] ?_
 refine dG [(8,_)] [([(76,some (T.addr 8 [0,0]))],[(76,0)])] ⟨rfl,trivial⟩ (fun E h => zU.opE (zQy 0 arr_120 (wQ h.1 rfl) rfl rfl rfl) rfl) ?_
 refine zA7 [(76,_),(8,_)] ?_
 refine dC [(75,_),(77,_)] Tryz.call106 (FnK.go (t_N.h _ _) hr11) ?_
 refine dG [(78,_)] [([(79,some (T.same 78 [2]))],[(79,0)])] ⟨rfl,trivial⟩ (fun E h => zU.opE (zMP fld_41_2 (zD3 rfl rfl) h.1 rfl rfl rfl) rfl) ?_
 refine xP [(1,_)] ?_
 refine dG [(8,_)] [([(81,some (T.addr 8 [1,0]))],[(81,0)])] ⟨rfl,trivial⟩ (fun E h => zU.opE (zQy 1 arr_120 (wQ h.1 rfl) rfl rfl rfl) rfl) ?_
 refine zA7 [(81,_),(8,_)] ?_
 refine dC [(80,_),(82,_)] Tryz.call106 (FnK.go (t_N.h _ _) hr12) ?_
 refine dG [(83,_)] [([(84,some (T.same 83 [2]))],[(84,0)])] ⟨rfl,trivial⟩ (fun E h => zU.opE (zMP fld_41_2 (zD3 rfl rfl) h.1 rfl rfl rfl) rfl) ?_
 refine dC [(79,_),(78,_),(84,_),(83,_)] Tryz.call105 (FnK.go (t_aO.h _ _) hr13) ?_
 refine zHO [(85,_)] ?_
 refine dNA wG ?_
 refine nA (cn h (fun hc h => ?_) (fun hc h => ?_))
 refine sR (yM ?_)
 refine rN (CW.ret (rB ?_))
 exact rA (eX h)
 refine CW.skip (nB (nA (CW.region ?_)))
 obtain ⟨v14,hv14,h⟩:=bd h
 refine tY ?_
 refine zX ?_
 refine RW.nil ?_
 exact eN h
 refine CW.exit (xA ?_)
 exact eX h
 rcases r15 with r15 | r15
 obtain ⟨rfl,hg⟩:=hq
 refine xB ?_
 refine nA (CW.ghost hg ?_)
 refine sR (yM ?_)
 refine rN (CW.ret ?_)
 obtain rfl:=sI h
 exact rT
 obtain ⟨rfl,hq⟩:=hq
 refine rB ?_
 refine rA ?_
 obtain rfl:=sI h
 exact hq
 obtain ⟨rfl,hq⟩:=hq
 refine rB ?_
 refine rA ?_
 obtain rfl:=sI h
 exact hq
instance t_q:FI Tryz.prog 53 (∀ (x0:SPr) (x1:zC),FnK Tryz.prog 53 [T.ro ((Pt xU) x0),T.ro ((Pt zV) x1)] (fun r:Bool => [B r]) (fun _ => []) (f_q x0 x1)):=⟨Tryz.call53,fun x0 x1 => FnK.mk (u_q x0 x1)⟩
section
attribute [local irreducible] RW CW DK OkL Ok xG xH wW vM XS.post rng uJ vQ ixO yB wJ vF yP zJ GTo zN FnC FnK vT tE Kp Lk BsL BuL RpL Bk Lc
instance t_a7:FI Tryz.prog 77 (∀ (x0:SPr),FnK Tryz.prog 77 [T.ro ((Pt xU) x0)] (fun r:Int => [I r]) (fun _ => []) (zQe x0)):=⟨Tryz.call77,fun x0 => iF Tryz.func77⟩
instance (x0:zC) (x1:List (List Int)):LH (R:=Bool) (zLl x0 x1) [0,7,8] [] (fun s1 => [(9,I s1)]) (.xs (.xe 0 [0,7,8] fun _ => []) .xr):=⟨⟩
instance t_aD:FI Tryz.prog 107 (∀ (x0:zC) (x1:List (List Int)),FnK Tryz.prog 107 [T.ro ((Pt zV) x0),T.ro (lM x1)] (fun r:Bool => [B r]) (fun _ => []) (zRV x0 x1)):=⟨Tryz.call107,fun x0 x1 => iF Tryz.func107⟩
instance t_a8:FI Tryz.prog 54 (∀ (x0:SPr) (x1:zC) (x2:List (List Int)),FnK Tryz.prog 54 [T.ro ((Pt xU) x0),T.ro ((Pt zV) x1),T.ro (lM x2)] (fun r:Bool => [B r]) (fun _ => []) (zQh x0 x1 x2)):=⟨Tryz.call54,fun x0 x1 x2 => iF Tryz.func54⟩
instance (x0:zC) (x1:zC) (x2:zL):LH (R:=Bool) (zIR x0 x1 x2) [0,1,5,12] [] (fun s1 => [(13,I s1)]) (.xs (.xe 0 [0,1,5,12] fun _ => []) .xr):=⟨⟩
instance t_az:FI Tryz.prog 108 (∀ (x0:zC) (x1:zC) (x2:zL),FnK Tryz.prog 108 [T.ro ((Pt zV) x0),T.ro ((Pt zV) x1),wR x2] (fun r:Bool => [B r]) (fun _ => []) (zRY x0 x1 x2)):=⟨Tryz.call108,fun x0 x1 x2 => iF Tryz.func108⟩
instance t_be:FI Tryz.prog 55 (∀ (x0:SPr) (x1:zC) (x2:zC) (x3:zL),FnK Tryz.prog 55 [qPr x0,yR x1,yR x2,wR x3] (fun r:Bool × Int => [B r.1,I r.2]) (fun _ => []) (zRZ x0 x1 x2 x3)):=⟨Tryz.call55,fun x0 x1 x2 x3 => iF Tryz.func55⟩
end
theorem u_s (x0:List Int) (r:SPr) (h:f_s x0 = some r):FnC Tryz.prog 158 [T.ro (lV x0)] [xU r] []:=by
 refine fB Tryz.func158 (fun St W w0 v => ?_)
 refine sR (vU ?_)
 refine rN (sR (zX ?_))
 refine jY ?_
 refine yM ?_
 refine rN (sR (zX ?_))
 obtain ⟨r1,hr1,h⟩:=bd h
 refine cA Tryz.call136 (FnK.go (t_z.h _) hr1) ?_
 refine oP (jQ bld_37 [(0,.tmp 11)] [(0,.slot 11 (L 1 I r1))] [.slot 11 (L 1 I r1),.zero (L 1 lV []),.zero (L 1 lM [])] (pkS rfl (zF (zM (Enc.clean (f:=I)))) rfl (pkZ rfl (pkZ rfl pkN))) (bqC (.slot _ _) bqN) rfl) ?_
 refine vU ?_
 refine oP (vP zD2 rfl (wQ rfl rfl) rfl rfl rfl rfl (zF (xL ⟨(zM (Enc.clean (f:=I))),trivial,trivial,trivial⟩)) rfl) ?_
 refine rN (CW.seq (sR (zX ?_)))
 refine zX ?_
 refine rN (CW.block ?_)
 obtain ⟨r11,hr11,h⟩:=bd h
 refine CW.lp (s:=([],[],0)) (zMb x0) (fun s5:(List (List Int)) × (List (List (List Int))) × Int => wB [(2,T.ptr (T.agg [L 1 I [],L 1 lV [],L 1 lM []])),(3,I (x0.length:Int)),(4,T.ptr (T.agg [L 1 I r1,L 1 lV s5.1,L 1 lM s5.2.1])),(13,I (x0.length:Int)),(14,I s5.2.2)]) (fun (r11:((List (List Int)) × (List (List (List Int))))) e E => e = .exit 0 ∧ zN ⟨St,W,w0,Tryz.f158.ntmps⟩ E (wB [(2,T.ptr (T.agg [L 1 I [],L 1 lV [],L 1 lM []])),(4,T.ptr (T.agg [L 1 I r1,L 1 lV r11.1,L 1 lM r11.2]))])) (.has ⟨rfl,rfl,rfl,rfl,rfl,trivial⟩) (fun s5 x h => ?_) hr11 (fun e E hq => ?_)
 refine sR (vZ ?_)
 refine rN (CW.seq (cn h (fun hc h => ?_) (fun hc h => ?_)))
 refine CW.skip (nA (CW.seq (CW.block (sR (zX ?_)))))
 refine yM ?_
 refine rN (CW.seq ?_)
 obtain ⟨m2,hm2,h⟩:=bd h
 obtain ⟨v3,hv3,h⟩:=bd h
 refine CW.dk ?_
 refine zCb [(4,_)] ?_
 refine zA7 [(17,_),(4,_)] ?_
 refine xP [(3,_)] ?_
 refine dG [(19,_)] [([(20,some (L 1 I (List.replicate m2 (0:Int))))],[(20,0)])] ⟨rfl,trivial⟩ (fun E h => zU.opE (zAn (f:=I) (z:=0) elt_22 (rfl) hm2 h.1 h.1 rfl) rfl) ?_
 refine dG [(20,_)] [([(21,some (L 1 lV [List.replicate m2 (0:Int)])),(20,some (T.same 21 [0]))],[(21,0),(20,1)])] ⟨rfl,trivial⟩ (fun E h => zU.opE (zDg elt_23 [.tmp 20] [.slot 20 (L 1 I (List.replicate m2 (0:Int)))] [List.replicate m2 (0:Int)] lV ⟨.slot _ _,trivial⟩ (pkS h.1 (zF (zM (Enc.clean (f:=I)))) rfl pkN) rfl rfl) rfl) ?_
 refine dG [(18,T.same 4 [1,0]),(4,T.ptr (T.agg [L 1 I r1,L 1 lV s5.1,L 1 lM s5.2.1])),(21,L 1 lV [List.replicate m2 (0:Int)])] [([(18,some (L 1 lV s5.1)),(4,some (T.ptr (T.agg [L 1 I r1,T.any,L 1 lM s5.2.1])))],[(18,1),(4,3)]),([(22,some (L 1 lV v3)),(18,some T.any),(21,some T.any)],[(22,0),(18,1),(21,1)])] ⟨rfl,rfl,rfl,trivial⟩ (fun E h => zU.gh (zN.trq 18 4 [1,0] h.1 h.2.1 rfl (zF (zM (Enc.clean (f:=lV)))) rfl) <| zU.opE (zAj (f:=lV) elt_23 hv3 rfl (zB6 h.2.2.1) rfl) rfl) ?_
 refine zCb [(4,_)] ?_
 refine dG [(23,_),(4,_),(22,_)] [([(4,some (T.ptr (T.agg [L 1 I r1,L 1 lV v3,L 1 lM s5.2.1]))),(22,some (T.same 4 [1,0]))],[(4,2),(22,1)])] ⟨rfl,rfl,rfl,trivial⟩ (fun E h => zU.opE (zGG zJU rfl h.1 h.2.1 rfl rfl h.2.2.1 (zF (zM (Enc.clean (f:=lV)))) rfl) rfl) ?_
 refine dNA wG ?_
 refine nA (sR (oP (zEC 1 rfl) ?_))
 refine rN (CW.seq (sR (zX ?_)))
 obtain ⟨v4,hv4,h⟩:=bd h
 refine tY ?_
 refine yM ?_
 refine rN (CW.block ?_)
 obtain ⟨r8,hr8,h⟩:=bd h
 refine CW.lp (s:=([],v4)) (zMa x0) (fun s6:(List (List Int)) × Int => wB [(2,T.ptr (T.agg [L 1 I [],L 1 lV [],L 1 lM []])),(3,I (x0.length:Int)),(4,T.ptr (T.agg [L 1 I r1,L 1 lV v3,L 1 lM s5.2.1])),(6,L 1 lV s6.1),(7,I s6.2),(13,I (x0.length:Int)),(14,I s5.2.2)]) (fun (r8:(List (List Int))) e E => e = .exit 2 ∧ zN ⟨St,W,w0,Tryz.f158.ntmps⟩ E (wB [(2,T.ptr (T.agg [L 1 I [],L 1 lV [],L 1 lM []])),(3,I (x0.length:Int)),(4,T.ptr (T.agg [L 1 I r1,L 1 lV v3,L 1 lM s5.2.1])),(6,L 1 lV r8),(13,I (x0.length:Int)),(14,I s5.2.2)])) (.has ⟨rfl,rfl,rfl,rfl,rfl,rfl,rfl,trivial⟩) (fun s6 x h => ?_) hr8 (fun e E hq => ?_)
 refine CW.seq (sR (zX ?_))
 refine zX ?_
 refine vZ ?_
 refine rN (cn h (fun hc h => ?_) (fun hc h => ?_))
 refine CW.skip (nA (CW.seq (CW.block (CW.region (zX ?_)))))
 refine zX ?_
 refine zX ?_
 obtain ⟨r5,hr5,h⟩:=bd h
 refine cA Tryz.call88 (FnK.go (t_ar.h _ _) hr5) ?_
 refine oP (zDg elt_23 [.tmp 34] [.slot 34 (L 1 I r5)] [r5] lV ⟨.slot _ _,trivial⟩ (pkS rfl (zF (zM (Enc.clean (f:=I)))) rfl pkN) rfl rfl) ?_
 refine RW.ghost (zN.tr 31 6 _ rfl rfl (zF (zM (Enc.clean (f:=lV)))) rfl) ?_
 obtain ⟨v6,hv6,h⟩:=bd h
 refine oP (zAj (f:=lV) elt_23 hv6 rfl rfl rfl) ?_
 refine yM ?_
 refine RW.ghost (zN.tr 6 36 _ rfl rfl (zF (zM (Enc.clean (f:=lV)))) rfl) ?_
 refine RW.nil ?_
 refine nB (nA (CW.region (zX ?_)))
 obtain ⟨v7,hv7,h⟩:=bd h
 refine tY ?_
 refine yM ?_
 refine RW.nil ?_
 exact eN h
 refine CW.exit (xA ?_)
 exact eX h
 obtain ⟨rfl,hg⟩:=hq
 refine xB ?_
 refine nA (CW.ghost hg ?_)
 refine CW.region (zA6 ?_)
 refine zBw ?_
 refine zX ?_
 refine RW.ghost (zN.tr 39 6 _ rfl rfl (zF (zM (Enc.clean (f:=lV)))) rfl) ?_
 refine oP (zDg elt_24 [.tmp 39] [.slot 39 (L 1 lV r8)] [r8] lM ⟨.slot _ _,trivial⟩ (pkS rfl (zF (zM (Enc.clean (f:=lV)))) rfl pkN) rfl rfl) ?_
 refine RW.ghost (zN.trq 38 4 [2,0] rfl rfl rfl (zF (zM (Enc.clean (f:=lM)))) rfl) ?_
 obtain ⟨v9,hv9,h⟩:=bd h
 refine oP (zAj (f:=lM) elt_24 hv9 rfl rfl rfl) ?_
 refine zA6 ?_
 refine oP (zGG zPg rfl rfl rfl rfl rfl rfl (zF (zM (Enc.clean (f:=lM)))) rfl) ?_
 refine RW.nil ?_
 refine nB (nA (CW.region ?_))
 obtain ⟨v10,hv10,h⟩:=bd h
 refine tY ?_
 refine zX ?_
 refine RW.nil ?_
 exact eN h
 refine CW.exit (xA ?_)
 exact eX h
 obtain ⟨rfl,hg⟩:=hq
 refine xB ?_
 refine nA (CW.ghost hg ?_)
 refine sR (vL ?_)
 refine RW.ghost (zN.trf 44 [0] 4 [0,0] _ _ rfl rfl rfl rfl rfl (zF (zM (Enc.clean (f:=I)))) rfl) ?_
 refine RW.ghost (zN.trf 44 [1] 4 [1,0] _ _ rfl rfl rfl rfl rfl (zF (zM (Enc.clean (f:=lV)))) rfl) ?_
 refine RW.ghost (zN.trf 44 [2] 4 [2,0] _ _ rfl rfl rfl rfl rfl (zF (zM (Enc.clean (f:=lM)))) rfl) ?_
 refine oP (vP zD2 rfl (wQ rfl rfl) rfl rfl rfl rfl (zF (xL ⟨(zM (Enc.clean (f:=I))),(zM (Enc.clean (f:=lV))),(zM (Enc.clean (f:=lM))),trivial⟩)) rfl) ?_
 refine rN (CW.ret ?_)
 obtain rfl:=sI h
 exact ⟨_,zN.refl,⟨.inl rfl,[(2,[0],T.agg [L 1 I r1,L 1 lV r11.1,L 1 lM r11.2])],⟨⟨rfl,rfl,rfl,(var_37.h _ rfl rfl).h⟩,trivial⟩,rfl,(by simp),(by simp),trivial⟩⟩
instance t_s:FI Tryz.prog 158 (∀ (x0:List Int),FnK Tryz.prog 158 [T.ro (lV x0)] (fun r:SPr => [xU r]) (fun _ => []) (f_s x0)):=⟨Tryz.call158,fun x0 => FnK.mk (u_s x0)⟩
theorem zUv (x1:Int) (r:(List Int)) (h:zOL x1 = some r):FnC Tryz.prog 133 [T.lit (.slice none 0 0),I x1] [lV r] []:=by
 refine fB Tryz.func133 (fun St W w0 v => ?_)
 refine sR (oP (zEC 1 rfl) ?_)
 refine rN (CW.seq (sR (zX ?_)))
 refine vZ ?_
 refine rN (cn h (fun hc h => ?_) (fun hc h => ?_))
 ·refine CW.region ?_
  cases h
 ·refine CW.skip (nA (CW.seq (sR (zX ?_))))
  refine zX ?_
  refine oP (zHG Tryz.underlying22 rfl rfl) ?_
  refine zX ?_
  refine oP (zHF Tryz.underlying22 rfl rfl) ?_
  obtain ⟨v1,hv1,h⟩:=bd h
  refine zNd ?_
  obtain ⟨v2,hv2,h⟩:=bd h
  refine zNd ?_
  refine yM ?_
  refine rN (sR (zX ?_))
  refine zSx ?_
  refine rN (cn h (fun hc h => ?_) (fun hc h => ?_))
  ·refine CW.region (zX ?_)
   refine zX ?_
   refine oP (zHG Tryz.underlying22 rfl rfl) ?_
   refine oP (zP1 elt_22 rfl rfl rfl) ?_
   refine zX ?_
   obtain ⟨v3,hv3,h⟩:=bd h
   refine oP (zRa (f:=I) (z:=0) elt_22 Tryz.underlying3 (rfl) hv3 rfl rfl rfl) ?_
   refine zX ?_
   refine oP (zHF Tryz.underlying22 rfl rfl) ?_
   obtain ⟨v4,hv4,h⟩:=bd h
   refine oP (zSr (f:=I) elt_22 hv4 rfl rfl (.inl rfl) rfl) ?_
   refine yM ?_
   refine RW.ghost (zN.tr 0 25 _ rfl rfl (zF (zM (Enc.clean (f:=I)))) rfl) ?_
   refine rN (sR (zX ?_))
   refine yM ?_
   refine RW.ghost (zN.tr 4 0 _ rfl rfl (zF (zM (Enc.clean (f:=I)))) rfl) ?_
   refine rN (CW.ret ?_)
   obtain rfl:=sI h
   exact rT
  ·refine CW.skip (nA (sR (zX ?_)))
   refine yM ?_
   refine rN (CW.ghost (zN.nil 4 1 rfl) ?_)
   refine CW.ret ?_
   obtain rfl:=sI h
   exact rT
instance t_aK:FI Tryz.prog 133 (∀ (x1:Int),FnK Tryz.prog 133 [T.lit (.slice none 0 0),I x1] (fun r:(List Int) => [lV r]) (fun _ => []) (zOL x1)):=⟨Tryz.call133,fun x1 => FnK.mk (zUv x1)⟩
section
attribute [local irreducible] RW CW DK OkL Ok xG xH wW vM XS.post rng uJ vQ ixO yB wJ vF yP zJ GTo zN FnC FnK vT tE Kp Lk BsL BuL RpL Bk Lc
instance (x0:List (List Int)):LH (R:=(List Int)) (zOM x0) [0,9,10] [] (fun s1 => [(3,I s1.1),(11,I s1.2)]) (.xe 0 [9,10] fun r4 => [(3,I r4)]):=⟨⟩
instance (x0:List (List Int)):LH (R:=(List Int)) (zON x0) [25,26] [] (fun s3 => [(6,L 1 I s3.1),(27,I s3.2)]) (.xe 2 [25,26] fun r9 => [(6,L 1 I r9)]):=⟨⟩
instance t_r:FI Tryz.prog 74 (∀ (x0:List (List Int)),FnK Tryz.prog 74 [T.ro (lM x0)] (fun r:(List Int) => [lV r]) (fun _ => []) (f_r x0)):=⟨Tryz.call74,fun x0 => iF Tryz.func74⟩
end
theorem zUw (x0:List Int) (x1:Int) (x2:Int) (r:(List Int)) (h:zOO x0 x1 x2 = some r):FnC Tryz.prog 159 [T.ro (lV x0),I x1,I x2] [lV r] []:=by
 refine fB Tryz.func159 (fun St W w0 v => ?_)
 refine sR (oP (zEC 1 rfl) ?_)
 refine rN (CW.seq ?_)
 obtain ⟨m1,hm1,h⟩:=bd h
 obtain ⟨m2,hm2,h⟩:=bd h
 obtain ⟨r3,hr3,h⟩:=bd h
 refine CW.dk ?_
 refine xP [(1,_)] ?_
 refine dG [(7,_)] [([(8,some (L 1 I (List.replicate m1 (0:Int))))],[(8,0)])] ⟨rfl,trivial⟩ (fun E h => zU.opE (zAn (f:=I) (z:=0) elt_22 (rfl) hm1 h.1 h.1 rfl) rfl) ?_
 refine xP [(0,_)] ?_
 refine xP [(2,_)] ?_
 refine dG [(10,_)] [([(11,some (L 1 I (List.replicate m2 (0:Int))))],[(11,0)])] ⟨rfl,trivial⟩ (fun E h => zU.opE (zAn (f:=I) (z:=0) elt_22 (rfl) hm2 h.1 h.1 rfl) rfl) ?_
 refine dG [(8,L 1 I (List.replicate m1 (0:Int))),(11,L 1 I (List.replicate m2 (0:Int))),(9,T.ro (lV x0))] [([(8,some (T.ro (lV (List.replicate m1 (0:Int)))))],[(8,1)]),([(11,some (T.ro (lV (List.replicate m2 (0:Int)))))],[(11,1)]),([(12,some (L 1 (Ro lV) [List.replicate m1 (0:Int),x0,List.replicate m2 (0:Int)]))],[(12,0)])] ⟨rfl,rfl,rfl,trivial⟩ (fun E h => zU.gh (zN.frz 8 (k:=1) (f:=I) (g:=I) (List.replicate m1 (0:Int)) h.1 inferInstance) <| zU.gh (zN.frz 11 (k:=1) (f:=I) (g:=I) (List.replicate m2 (0:Int)) (zB6 h.2.1) inferInstance) <| zU.opE (zDg elt_23 [.tmp 8,.tmp 9,.tmp 11] [.slot 8 (T.ro (lV (List.replicate m1 (0:Int)))),.slot 9 (T.ro (lV x0)),.slot 11 (T.ro (lV (List.replicate m2 (0:Int))))] [List.replicate m1 (0:Int),x0,List.replicate m2 (0:Int)] (Ro lV) ⟨.slot _ _,.slot _ _,.slot _ _,trivial⟩ (pkS (zB6 rfl) (zF trivial) rfl (pkS (zB6 (zB6 h.2.2.1)) (zF trivial) rfl (pkS rfl (zF trivial) rfl pkN))) rfl rfl) rfl) ?_
 refine dC [(12,_)] Tryz.call74 (FnK.go (t_r.h _) hr3) ?_
 refine zDh [(13,_)] ?_
 refine dNA wG ?_
 refine nA (CW.ghost (zN.tr 6 13 _ rfl rfl (zF (zM (Enc.clean (f:=I)))) rfl) ?_)
 refine CW.ret ?_
 obtain rfl:=sI h
 exact rT
instance t_aC:FI Tryz.prog 159 (∀ (x0:List Int) (x1:Int) (x2:Int),FnK Tryz.prog 159 [T.ro (lV x0),I x1,I x2] (fun r:(List Int) => [lV r]) (fun _ => []) (zOO x0 x1 x2)):=⟨Tryz.call159,fun x0 x1 x2 => FnK.mk (zUw x0 x1 x2)⟩
theorem u_i (x0:SPr) (x1:zC) (x2:List (List Int)) (r:SPr) (h:f_i x0 x1 x2 = some r):FnC Tryz.prog 109 [T.ro ((Pt xU) x0),T.ro ((Pt zV) x1),T.ro (lM x2)] [xU r] []:=by
 refine fB Tryz.func109 (fun St W w0 v => ?_)
 refine sR (vU ?_)
 refine rN (CW.seq (CW.dk ?_))
 refine xP [(0,_)] ?_
 refine zAL [(18,_)] ?_
 refine zKC [(19,_)] ?_
 refine zA0 [(20,_)] ?_
 refine zNh [(21,_)] ?_
 refine xP [(1,_)] ?_
 refine zAL [(23,_)] ?_
 refine zKC [(24,_)] ?_
 refine zA0 [(25,_)] ?_
 refine zDh [(22,_)] ?_
 refine zDh [(26,_)] ?_
 refine dNA wG ?_
 refine nA (CW.seq ?_)
 obtain ⟨r1,hr1,h⟩:=bd h
 obtain ⟨r2,hr2,h⟩:=bd h
 obtain ⟨v3,hv3,h⟩:=bd h
 obtain ⟨r4,hr4,h⟩:=bd h
 refine CW.dk ?_
 refine xP [(0,_)] ?_
 refine zAL [(27,_)] ?_
 refine zKC [(28,_)] ?_
 refine zA0 [(29,_)] ?_
 refine dC [(30,_)] Tryz.call136 (FnK.go (t_z.h _) hr1) ?_
 refine xP [(1,_)] ?_
 refine zAL [(32,_)] ?_
 refine zKC [(33,_)] ?_
 refine zA0 [(34,_)] ?_
 refine dG [(35,_)] [([(36,some (L 1 I [x1.Prime]))],[(36,0)])] ⟨rfl,trivial⟩ (fun E h => zU.opE (zDg elt_22 [.tmp 35] [.slot 35 (I x1.Prime)] [x1.Prime] I ⟨.slot _ _,trivial⟩ (pkS h.1 (zF (Enc.clean (f:=I) _)) rfl pkN) rfl rfl) rfl) ?_
 refine xP [(8,_)] ?_
 refine dC [(36,_),(37,_)] Tryz.call153 (FnK.go (t_g.h _ _) hr2) ?_
 refine dG [(31,_),(38,_)] [([(39,some (L 1 I v3)),(31,some T.any)],[(39,0),(31,1)])] ⟨rfl,rfl,trivial⟩ (fun E h => zU.opE (zMM (f:=I) elt_22 (fun _ => rfl) hv3 h.1 (wQ h.2.1 rfl) rfl) rfl) ?_
 refine dC [(39,_)] Tryz.call158 (FnK.go (t_s.h _) hr4) ?_
 refine zBl [] ?_
 refine dG [(9,_),(40,_)] [([(9,some (T.ptr (xU r4))),(40,some (T.agg [T.same 9 [0,0],T.same 9 [1,0],T.same 9 [2,0]]))],[(9,1),(40,1)])] ⟨rfl,rfl,trivial⟩ (fun E h => zU.opE (vP zD2 rfl (wQ h.1 rfl) h.1 rfl rfl h.2.1 (zF (xL ⟨(zM (Enc.clean (f:=I))),(zM (Enc.clean (f:=lV))),(zM (Enc.clean (f:=lM))),trivial⟩)) rfl) rfl) ?_
 refine dNA wG ?_
 refine nA (CW.seq (CW.to [(0,T.ro ((Pt xU) x0)),(1,T.ro ((Pt zV) x1)),(2,T.ro (lM x2)),(6,T.ptr (T.agg [L 1 I [],L 1 lV [],L 1 lM []])),(7,I (x0.zA.length:Int)),(9,T.ptr (xU r4))] ⟨rfl,rfl,rfl,rfl,rfl,rfl,trivial⟩ ?_))
 refine CW.region (yM ?_)
 refine rN (CW.seq (sR (zX ?_)))
 refine zEO ?_
 refine zHN ?_
 refine qB ?_
 refine jY ?_
 refine zX ?_
 refine rN (CW.block ?_)
 obtain ⟨r11,hr11,h⟩:=bd h
 refine CW.lp (s:=(r4.zR,0,0)) (zMc x0 x2) (fun s1:(List (List Int)) × Int × Int => wB [(0,T.ro ((Pt xU) x0)),(1,T.ro ((Pt zV) x1)),(2,T.ro (lM x2)),(6,T.ptr (T.agg [L 1 I [],L 1 lV [],L 1 lM []])),(7,I (x0.zA.length:Int)),(9,T.ptr (T.agg [L 1 I r4.zA,L 1 lV s1.1,L 1 lM r4.zB])),(10,I s1.2.1),(44,T.ro (lM x0.zR)),(45,I (x0.zR.length:Int)),(46,I s1.2.2)]) (fun (r11:((List (List Int)) × Int)) e E => e = .exit 0 ∧ zN ⟨St,W,w0,Tryz.f109.ntmps⟩ E (wB [(0,T.ro ((Pt xU) x0)),(1,T.ro ((Pt zV) x1)),(2,T.ro (lM x2)),(6,T.ptr (T.agg [L 1 I [],L 1 lV [],L 1 lM []])),(7,I (x0.zA.length:Int)),(9,T.ptr (T.agg [L 1 I r4.zA,L 1 lV r11.1,L 1 lM r4.zB])),(10,I r11.2)])) (.has ⟨rfl,rfl,rfl,rfl,rfl,rfl,rfl,rfl,rfl,rfl,trivial⟩) (fun s1 x h => ?_) hr11 (fun e E hq => ?_)
 refine sR (vZ ?_)
 refine rN (CW.seq (cn h (fun hc h => ?_) (fun hc h => ?_)))
 refine CW.skip (nA (CW.seq (CW.block (sR (zX ?_)))))
 obtain ⟨v5,hv5,h⟩:=bd h
 refine zBA ?_
 refine qB ?_
 refine yM ?_
 refine yM ?_
 refine rN (CW.seq ?_)
 obtain ⟨v6,hv6,h⟩:=bd h
 obtain ⟨r7,hr7,h⟩:=bd h
 obtain ⟨v8,hv8,h⟩:=bd h
 refine CW.dk ?_
 refine zCb [(9,_)] ?_
 refine zA7 [(51,_),(9,_)] ?_
 refine xP [(11,_)] ?_
 refine xP [(12,_)] ?_
 refine xP [(2,_)] ?_
 refine xP [(10,_)] ?_
 refine zKA [(55,_),(56,_)] ?_
 refine zA0 [(57,_)] ?_
 refine dG [(54,_),(58,_)] [([(59,some (L 1 (Ro lV) [v5,v6]))],[(59,0)])] ⟨rfl,rfl,trivial⟩ (fun E h => zU.opE (zDg elt_23 [.tmp 54,.tmp 58] [.slot 54 (T.ro (lV v5)),.slot 58 (T.ro (lV v6))] [v5,v6] (Ro lV) ⟨.slot _ _,.slot _ _,trivial⟩ (pkS h.1 (zF trivial) rfl (pkS h.2.1 (zF trivial) rfl pkN)) rfl rfl) rfl) ?_
 refine dC [(59,_)] Tryz.call74 (FnK.go (t_r.h _) hr7) ?_
 refine zNj [(52,_),(9,_),(53,_)] ?_
 refine dG [(61,_),(9,_),(60,_)] [([(9,some (T.ptr (T.agg [L 1 I r4.zA,L 1 lV (s1.1.set s1.2.2.toNat r7),L 1 lM r4.zB]))),(60,some (T.same 9 [s1.2.2.toNat,1,0]))],[(9,3),(60,1)])] ⟨rfl,rfl,rfl,trivial⟩ (fun E h => zU.opE (zGG zHd rfl h.1 h.2.1 (yZ (xC rfl (zP hv8 rfl))) (kP (zGF rfl (zAk hv8 rfl))) h.2.2.1 (zF (zM (Enc.clean (f:=I)))) rfl) rfl) ?_
 refine dNA wG ?_
 refine nA (CW.region (zX ?_))
 obtain ⟨v9,hv9,h⟩:=bd h
 refine oP (zAI hv9 rfl rfl rfl) ?_
 refine yM ?_
 refine RW.nil ?_
 refine nB (nA (CW.region ?_))
 obtain ⟨v10,hv10,h⟩:=bd h
 refine oP (zAI hv10 rfl rfl rfl) ?_
 refine zX ?_
 refine RW.nil ?_
 exact eN h
 refine CW.exit (xA ?_)
 exact eX h
 obtain ⟨rfl,hg⟩:=hq
 refine xB ?_
 refine nA (CW.ghost hg ?_)
 refine CW.seq (sR (zX ?_))
 refine zX ?_
 refine rN (CW.block ?_)
 obtain ⟨r32,hr32,h⟩:=bd h
 refine CW.lp (s:=(r4.zB,r11.2,0)) (zMf x0 x1 x2) (fun s11:(List (List (List Int))) × Int × Int => wB [(0,T.ro ((Pt xU) x0)),(1,T.ro ((Pt zV) x1)),(2,T.ro (lM x2)),(6,T.ptr (T.agg [L 1 I [],L 1 lV [],L 1 lM []])),(7,I (x0.zA.length:Int)),(9,T.ptr (T.agg [L 1 I r4.zA,L 1 lV r11.1,L 1 lM s11.1])),(10,I s11.2.1),(65,I (x0.zA.length:Int)),(66,I s11.2.2)]) (fun (r32:(List (List (List Int)))) e E => e = .exit 2 ∧ zN ⟨St,W,w0,Tryz.f109.ntmps⟩ E (wB [(6,T.ptr (T.agg [L 1 I [],L 1 lV [],L 1 lM []])),(9,T.ptr (T.agg [L 1 I r4.zA,L 1 lV r11.1,L 1 lM r32]))])) (.has ⟨rfl,rfl,rfl,rfl,rfl,rfl,rfl,rfl,rfl,trivial⟩) (fun s11 x h => ?_) hr32 (fun e E hq => ?_)
 refine sR (vZ ?_)
 refine rN (CW.seq (cn h (fun hc h => ?_) (fun hc h => ?_)))
 refine CW.skip (nA (CW.seq (CW.block (sR (zX ?_)))))
 refine yM ?_
 refine rN (CW.seq (sR (zX ?_)))
 refine zEO ?_
 refine zHN ?_
 refine qB ?_
 refine zX ?_
 obtain ⟨v12,hv12,h⟩:=bd h
 refine zBA ?_
 refine qB ?_
 refine jY ?_
 refine zX ?_
 refine rN (CW.block ?_)
 obtain ⟨r20,hr20,h⟩:=bd h
 refine CW.lp (s:=(s11.1,s11.2.1,0)) (zMd x2 s11 v12) (fun s12:(List (List (List Int))) × Int × Int => wB [(0,T.ro ((Pt xU) x0)),(1,T.ro ((Pt zV) x1)),(2,T.ro (lM x2)),(6,T.ptr (T.agg [L 1 I [],L 1 lV [],L 1 lM []])),(7,I (x0.zA.length:Int)),(9,T.ptr (T.agg [L 1 I r4.zA,L 1 lV r11.1,L 1 lM s12.1])),(10,I s12.2.1),(13,I s11.2.2),(65,I (x0.zA.length:Int)),(66,I s11.2.2),(75,T.ro (lM v12)),(76,I (v12.length:Int)),(77,I s12.2.2)]) (fun (r20:((List (List (List Int))) × Int)) e E => e = .exit 4 ∧ zN ⟨St,W,w0,Tryz.f109.ntmps⟩ E (wB [(0,T.ro ((Pt xU) x0)),(1,T.ro ((Pt zV) x1)),(2,T.ro (lM x2)),(6,T.ptr (T.agg [L 1 I [],L 1 lV [],L 1 lM []])),(7,I (x0.zA.length:Int)),(9,T.ptr (T.agg [L 1 I r4.zA,L 1 lV r11.1,L 1 lM r20.1])),(10,I r20.2),(13,I s11.2.2),(65,I (x0.zA.length:Int)),(66,I s11.2.2)])) (.has ⟨rfl,rfl,rfl,rfl,rfl,rfl,rfl,rfl,rfl,rfl,rfl,rfl,rfl,trivial⟩) (fun s12 x h => ?_) hr20 (fun e E hq => ?_)
 refine sR (vZ ?_)
 refine rN (CW.seq (cn h (fun hc h => ?_) (fun hc h => ?_)))
 refine CW.skip (nA (CW.seq (CW.block (sR (zX ?_)))))
 obtain ⟨v13,hv13,h⟩:=bd h
 refine zBA ?_
 refine qB ?_
 refine yM ?_
 refine yM ?_
 refine rN (CW.seq ?_)
 obtain ⟨v14,hv14,h⟩:=bd h
 obtain ⟨v15,hv15,h⟩:=bd h
 obtain ⟨r16,hr16,h⟩:=bd h
 obtain ⟨v17,hv17,h⟩:=bd h
 refine CW.dk ?_
 refine zCb [(9,_)] ?_
 refine zA7 [(82,_),(9,_)] ?_
 refine xP [(13,_)] ?_
 refine zNj [(83,_),(9,_),(84,_)] ?_
 refine zA7 [(85,_),(9,_)] ?_
 refine xP [(14,_)] ?_
 refine xP [(15,_)] ?_
 refine xP [(2,_)] ?_
 refine xP [(10,_)] ?_
 refine zKA [(89,_),(90,_)] ?_
 refine zA0 [(91,_)] ?_
 refine dG [(88,_),(92,_)] [([(93,some (L 1 (Ro lV) [v13,v15]))],[(93,0)])] ⟨rfl,rfl,trivial⟩ (fun E h => zU.opE (zDg elt_23 [.tmp 88,.tmp 92] [.slot 88 (T.ro (lV v13)),.slot 92 (T.ro (lV v15))] [v13,v15] (Ro lV) ⟨.slot _ _,.slot _ _,trivial⟩ (pkS h.1 (zF trivial) rfl (pkS h.2.1 (zF trivial) rfl pkN)) rfl rfl) rfl) ?_
 refine dC [(93,_)] Tryz.call74 (FnK.go (t_r.h _) hr16) ?_
 refine zNj [(86,_),(9,_),(87,_)] ?_
 refine dG [(95,_),(9,_),(94,_)] [([(9,some (T.ptr (T.agg [L 1 I r4.zA,L 1 lV r11.1,L 1 lM (s12.1.set s11.2.2.toNat (v14.set s12.2.2.toNat r16))]))),(94,some (T.same 9 [s12.2.2.toNat,s11.2.2.toNat,2,0]))],[(9,4),(94,1)])] ⟨rfl,rfl,rfl,trivial⟩ (fun E h => zU.opE (zGG zHd rfl h.1 h.2.1 (yZ (xC rfl (zP hv14 (zP hv17 rfl)))) (kP (zGF rfl (zAk hv14 (zAk hv17 rfl)))) h.2.2.1 (zF (zM (Enc.clean (f:=I)))) rfl) rfl) ?_
 refine dNA wG ?_
 refine nA (CW.region (zX ?_))
 obtain ⟨v18,hv18,h⟩:=bd h
 refine tY ?_
 refine yM ?_
 refine RW.nil ?_
 refine nB (nA (CW.to [(0,T.ro ((Pt xU) x0)),(1,T.ro ((Pt zV) x1)),(2,T.ro (lM x2)),(6,T.ptr (T.agg [L 1 I [],L 1 lV [],L 1 lM []])),(7,I (x0.zA.length:Int)),(9,T.ptr (T.agg [L 1 I r4.zA,L 1 lV r11.1,L 1 lM (s12.1.set s11.2.2.toNat (v14.set s12.2.2.toNat r16))])),(10,I v18),(13,I s11.2.2),(65,I (x0.zA.length:Int)),(66,I s11.2.2),(75,T.ro (lM v12)),(76,I (v12.length:Int)),(77,I s12.2.2)] ⟨rfl,rfl,rfl,rfl,rfl,rfl,rfl,rfl,rfl,rfl,rfl,rfl,rfl,trivial⟩ ?_))
 refine CW.region ?_
 obtain ⟨v19,hv19,h⟩:=bd h
 refine tY ?_
 refine zX ?_
 refine RW.nil ?_
 exact eN h
 refine CW.exit (xA ?_)
 exact eX h
 obtain ⟨rfl,hg⟩:=hq
 refine xB ?_
 refine nA (CW.ghost hg ?_)
 refine sR (zX ?_)
 refine zEO ?_
 refine zHN ?_
 refine qB ?_
 refine zX ?_
 obtain ⟨v21,hv21,h⟩:=bd h
 refine zBA ?_
 refine qB ?_
 refine jY ?_
 refine zX ?_
 refine rN (CW.block ?_)
 obtain ⟨r30,hr30,h⟩:=bd h
 refine CW.lp (s:=(r20.1,0)) (zMe x0 s11 v21) (fun s14:(List (List (List Int))) × Int => wB [(0,T.ro ((Pt xU) x0)),(1,T.ro ((Pt zV) x1)),(2,T.ro (lM x2)),(6,T.ptr (T.agg [L 1 I [],L 1 lV [],L 1 lM []])),(7,I (x0.zA.length:Int)),(9,T.ptr (T.agg [L 1 I r4.zA,L 1 lV r11.1,L 1 lM s14.1])),(10,I r20.2),(13,I s11.2.2),(65,I (x0.zA.length:Int)),(66,I s11.2.2),(105,T.ro (lM v21)),(106,I (v21.length:Int)),(107,I s14.2)]) (fun (r30:(List (List (List Int)))) e E => e = .exit 6 ∧ zN ⟨St,W,w0,Tryz.f109.ntmps⟩ E (wB [(0,T.ro ((Pt xU) x0)),(1,T.ro ((Pt zV) x1)),(2,T.ro (lM x2)),(6,T.ptr (T.agg [L 1 I [],L 1 lV [],L 1 lM []])),(7,I (x0.zA.length:Int)),(9,T.ptr (T.agg [L 1 I r4.zA,L 1 lV r11.1,L 1 lM r30])),(10,I r20.2),(65,I (x0.zA.length:Int)),(66,I s11.2.2)])) (.has ⟨rfl,rfl,rfl,rfl,rfl,rfl,rfl,rfl,rfl,rfl,rfl,rfl,rfl,trivial⟩) (fun s14 x h => ?_) hr30 (fun e E hq => ?_)
 refine sR (vZ ?_)
 refine rN (CW.seq (cn h (fun hc h => ?_) (fun hc h => ?_)))
 refine CW.skip (nA (CW.seq (CW.block (sR (zX ?_)))))
 obtain ⟨v22,hv22,h⟩:=bd h
 refine zBA ?_
 refine qB ?_
 refine yM ?_
 refine yM ?_
 refine rN ?_
 obtain ⟨v23,hv23,h⟩:=bd h
 obtain ⟨v24,hv24,h⟩:=bd h
 obtain ⟨v25,hv25,h⟩:=bd h
 obtain ⟨v26,hv26,h⟩:=bd h
 obtain ⟨r27,hr27,h⟩:=bd h
 obtain ⟨v28,hv28,h⟩:=bd h
 refine CW.dk ?_
 refine zCb [(9,_)] ?_
 refine zA7 [(112,_),(9,_)] ?_
 refine xP [(13,_)] ?_
 refine zNj [(113,_),(9,_),(114,_)] ?_
 refine zA7 [(115,_),(9,_)] ?_
 refine xP [(7,_)] ?_
 refine zQ3 [(117,_)] ?_
 refine xP [(13,_)] ?_
 refine zQ3 [(118,_),(119,_)] ?_
 refine xP [(16,_)] ?_
 refine zKB [(120,_),(121,_)] ?_
 refine xP [(17,_)] ?_
 refine xP [(7,_)] ?_
 refine dC [(123,_),(124,_)] Tryz.call159 (FnK.go (t_aC.h _ _ _) hr27) ?_
 refine zNj [(116,_),(9,_),(122,_)] ?_
 refine dG [(126,_),(9,_),(125,_)] [([(9,some (T.ptr (T.agg [L 1 I r4.zA,L 1 lV r11.1,L 1 lM (s14.1.set s11.2.2.toNat (v23.set v26.toNat r27))]))),(125,some (T.same 9 [v26.toNat,s11.2.2.toNat,2,0]))],[(9,4),(125,1)])] ⟨rfl,rfl,rfl,trivial⟩ (fun E h => zU.opE (zGG zHd rfl h.1 h.2.1 (yZ (xC rfl (zP hv23 (zP hv28 rfl)))) (kP (zGF rfl (zAk hv23 (zAk hv28 rfl)))) h.2.2.1 (zF (zM (Enc.clean (f:=I)))) rfl) rfl) ?_
 refine dNA wG ?_
 refine nB (nA (CW.region ?_))
 obtain ⟨v29,hv29,h⟩:=bd h
 refine tY ?_
 refine zX ?_
 refine RW.nil ?_
 exact eN h
 refine CW.exit (xA ?_)
 exact eX h
 obtain ⟨rfl,hg⟩:=hq
 refine xB ?_
 refine nB (nA (CW.ghost hg ?_))
 refine CW.region ?_
 obtain ⟨v31,hv31,h⟩:=bd h
 refine tY ?_
 refine zX ?_
 refine RW.nil ?_
 exact eN h
 refine CW.exit (xA ?_)
 exact eX h
 obtain ⟨rfl,hg⟩:=hq
 refine xB ?_
 refine nA (CW.ghost hg ?_)
 refine sR (vL ?_)
 refine RW.ghost (zN.trf 129 [0] 9 [0,0] _ _ rfl rfl rfl rfl rfl (zF (zM (Enc.clean (f:=I)))) rfl) ?_
 refine RW.ghost (zN.trf 129 [1] 9 [1,0] _ _ rfl rfl rfl rfl rfl (zF (zM (Enc.clean (f:=lV)))) rfl) ?_
 refine RW.ghost (zN.trf 129 [2] 9 [2,0] _ _ rfl rfl rfl rfl rfl (zF (zM (Enc.clean (f:=lM)))) rfl) ?_
 refine oP (vP zD2 rfl (wQ rfl rfl) rfl rfl rfl rfl (zF (xL ⟨(zM (Enc.clean (f:=I))),(zM (Enc.clean (f:=lV))),(zM (Enc.clean (f:=lM))),trivial⟩)) rfl) ?_
 refine rN (CW.ret ?_)
 obtain rfl:=sI h
 exact ⟨_,zN.refl,⟨.inl rfl,[(6,[0],T.agg [L 1 I r4.zA,L 1 lV r11.1,L 1 lM r32])],⟨⟨rfl,rfl,rfl,(var_37.h _ rfl rfl).h⟩,trivial⟩,rfl,(by simp),(by simp),trivial⟩⟩
instance t_i:FI Tryz.prog 109 (∀ (x0:SPr) (x1:zC) (x2:List (List Int)),FnK Tryz.prog 109 [T.ro ((Pt xU) x0),T.ro ((Pt zV) x1),T.ro (lM x2)] (fun r:SPr => [xU r]) (fun _ => []) (f_i x0 x1 x2)):=⟨Tryz.call109,fun x0 x1 x2 => FnK.mk (u_i x0 x1 x2)⟩
section
attribute [local irreducible] RW CW DK OkL Ok xG xH wW vM XS.post rng uJ vQ ixO yB wJ vF yP zJ GTo zN FnC FnK vT tE Kp Lk BsL BuL RpL Bk Lc
instance t_a9:FI Tryz.prog 56 (∀ (x0:SPr) (x1:zC) (x2:List (List Int)),FnK Tryz.prog 56 [T.ro ((Pt xU) x0),T.ro ((Pt zV) x1),T.ro (lM x2)] (fun r:Bool => [B r]) (fun _ => []) (zQi x0 x1 x2)):=⟨Tryz.call56,fun x0 x1 x2 => iF Tryz.func56⟩
instance (x3:zL) (x4:List (List Int)):LH (R:=(List (List Int)) × Int) (zMl x3 x4) [8,52,53] [] (fun s1 => [(14,L 1 lV s1.1),(54,I s1.2)]) (.xe 0 [8,52,53] fun r10 => [(14,L 1 lV r10)]):=⟨⟩
instance t_J:FI Tryz.prog 18 (∀ (x0:SPr) (x1:zC) (x2:zC) (x3:zL) (x4:List (List Int)),FnK Tryz.prog 18 [qPr x0,yR x1,yR x2,wR x3,T.ro (lM x4)] (fun r:(List (List Int)) × Int => [lM r.1,I r.2]) (fun _ => []) (f_J x0 x1 x2 x3 x4)):=⟨Tryz.call18,fun x0 x1 x2 x3 x4 => iF Tryz.func18⟩
instance (x0:List Int) (x1:List Int):LH (R:=Bool) (zOP x0 x1) [0,1] [] (fun s1 => [(5,I s1)]) (.xs (.xe 0 [0,1] fun _ => []) .xr):=⟨⟩
instance t_am:FI Tryz.prog 58 (∀ (x0:List Int) (x1:List Int),FnK Tryz.prog 58 [T.ro (lV x0),T.ro (lV x1)] (fun r:Bool => [B r]) (fun _ => []) (zOQ x0 x1)):=⟨Tryz.call58,fun x0 x1 => iF Tryz.func58⟩
instance (x0:List (List Int)) (x1:List (List Int)):LH (R:=Bool) (zRQ x0 x1) [0,1] [] (fun s1 => [(5,I s1)]) (.xs (.xe 0 [0,1] fun _ => []) .xr):=⟨⟩
instance t_y:FI Tryz.prog 19 (∀ (x0:List (List Int)) (x1:List (List Int)),FnK Tryz.prog 19 [T.ro (lM x0),T.ro (lM x1)] (fun r:Bool => [B r]) (fun _ => []) (f_y x0 x1)):=⟨Tryz.call19,fun x0 x1 => iF Tryz.func19⟩
instance (x0:List (List (List Int))) (x1:List (List (List Int))):LH (R:=Bool) (zOR x0 x1) [0,1] [] (fun s1 => [(5,I s1)]) (.xs (.xe 0 [0,1] fun _ => []) .xr):=⟨⟩
instance t_aA:FI Tryz.prog 36 (∀ (x0:List (List (List Int))) (x1:List (List (List Int))),FnK Tryz.prog 36 [T.ro (lC x0),T.ro (lC x1)] (fun r:Bool => [B r]) (fun _ => []) (zPX x0 x1)):=⟨Tryz.call36,fun x0 x1 => iF Tryz.func36⟩
instance t_aU:FI Tryz.prog 20 (∀ (x0:SPr) (x1:SPr),FnK Tryz.prog 20 [qPr x0,qPr x1] (fun r:Bool => [B r]) (fun _ => []) (zPY x0 x1)):=⟨Tryz.call20,fun x0 x1 => iF Tryz.func20⟩
instance t_aH:FI Tryz.prog 21 (∀ (x0:zC) (x1:zC),FnK Tryz.prog 21 [yR x0,yR x1] (fun r:Bool => [B r]) (fun _ => []) (zOS x0 x1)):=⟨Tryz.call21,fun x0 x1 => iF Tryz.func21⟩
instance t_a0:FI Tryz.prog 22 (∀ (x0:zL) (x1:zL),FnK Tryz.prog 22 [wR x0,wR x1] (fun r:Bool => [B r]) (fun _ => []) (zQl x0 x1)):=⟨Tryz.call22,fun x0 x1 => iF Tryz.func22⟩
instance  : LH (R:=Int × (List Int)) zPZ [] [] (fun s1 => [(0,L 1 I s1.1),(1,I s1.2.1),(5,I s1.2.2)]) (.xe 0 [] fun r4 => [(0,L 1 I r4.1),(1,I r4.2)]):=⟨⟩
instance t_R:FI Tryz.prog 59 (∀ (x0:List Int) (x1:Int),FnK Tryz.prog 59 [L 1 I x0,I x1] (fun r:Int × (List Int) => [I r.1]) (fun r => [(0,lV r.2)]) (f_R x0 x1)):=⟨Tryz.call59,fun x0 x1 => iF Tryz.func59⟩
instance  : LH (R:=Int × (List (List Int))) zRR [] [] (fun s1 => [(0,L 1 lV s1.1),(1,I s1.2.1),(5,I s1.2.2)]) (.xe 0 [] fun r4 => [(0,L 1 lV r4.1),(1,I r4.2)]):=⟨⟩
instance t_G:FI Tryz.prog 26 (∀ (x0:List (List Int)) (x1:Int),FnK Tryz.prog 26 [L 1 lV x0,I x1] (fun r:Int × (List (List Int)) => [I r.1]) (fun r => [(0,lM r.2)]) (f_G x0 x1)):=⟨Tryz.call26,fun x0 x1 => iF Tryz.func26⟩
instance  : LH (R:=Int × (List (List (List Int)))) zOT [] [] (fun s1 => [(0,L 1 lM s1.1),(1,I s1.2.1),(5,I s1.2.2)]) (.xe 0 [] fun r4 => [(0,L 1 lM r4.1),(1,I r4.2)]):=⟨⟩
instance t_an:FI Tryz.prog 37 (∀ (x0:List (List (List Int))) (x1:Int),FnK Tryz.prog 37 [L 1 lM x0,I x1] (fun r:Int × (List (List (List Int))) => [I r.1]) (fun r => [(0,lC r.2)]) (zOU x0 x1)):=⟨Tryz.call37,fun x0 x1 => iF Tryz.func37⟩
instance:GHs Tryz.f23.results:=⟨⟩
instance:GH Tryz.f23.results 2 4 0 (.trf 0 0 2 [0,0]):=⟨⟩
instance:GH Tryz.f23.results 2 4 1 (.trf 0 1 2 [1,0]):=⟨⟩
instance:GH Tryz.f23.results 2 4 2 (.trf 0 2 2 [2,0]):=⟨⟩
instance t_aZ:FI Tryz.prog 23 (∀ (x0:SPr) (x1:Int),FnK Tryz.prog 23 [xU x0,I x1] (fun r:Int × SPr => [I r.1]) (fun r => [(0,xU r.2)]) (zQa x0 x1)):=⟨Tryz.call23,fun x0 x1 => iF Tryz.func23⟩
instance:GHs Tryz.f24.results:=⟨⟩
instance:GH Tryz.f24.results 2 2 0 (.trf 0 2 2 [2,0]):=⟨⟩
instance t_aI:FI Tryz.prog 24 (∀ (x0:zC) (x1:Int),FnK Tryz.prog 24 [zV x0,I x1] (fun r:Int × zC => [I r.1]) (fun r => [(0,zV r.2)]) (zOV x0 x1)):=⟨Tryz.call24,fun x0 x1 => iF Tryz.func24⟩
instance:GHs Tryz.f25.results:=⟨⟩
instance:GH Tryz.f25.results 2 2 0 (.trf 0 2 2 [2,0]):=⟨⟩
instance t_a1:FI Tryz.prog 25 (∀ (x0:zL) (x1:Int),FnK Tryz.prog 25 [xT x0,I x1] (fun r:Int × zL => [I r.1]) (fun r => [(0,xT r.2)]) (zQm x0 x1)):=⟨Tryz.call25,fun x0 x1 => iF Tryz.func25⟩
instance (x0:List Int):LH (R:=Int) (zOW x0) [0] [] (fun s1 => [(1,I s1.1),(5,I s1.2)]) (.xs (.xe 0 [0] fun r4 => [(1,I r4)]) .xr):=⟨⟩
instance t_S:FI Tryz.prog 60 (∀ (x0:List Int) (x1:Int),FnK Tryz.prog 60 [T.ro (lV x0),I x1] (fun r:Int => [I r]) (fun _ => []) (f_S x0 x1)):=⟨Tryz.call60,fun x0 x1 => iF Tryz.func60⟩
instance (x0:List (List Int)):LH (R:=Int) (zOX x0) [0] [] (fun s1 => [(1,I s1.1),(5,I s1.2)]) (.xs (.xe 0 [0] fun r4 => [(1,I r4)]) .xr):=⟨⟩
instance t_ac:FI Tryz.prog 27 (∀ (x0:List (List Int)) (x1:Int),FnK Tryz.prog 27 [T.ro (lM x0),I x1] (fun r:Int => [I r]) (fun _ => []) (zQb x0 x1)):=⟨Tryz.call27,fun x0 x1 => iF Tryz.func27⟩
end
end Go.Wk

namespace Go.Wk
open Go Go.Proofs Go.Ab
set_option maxRecDepth 100000
set_option maxHeartbeats 4000000
theorem zUx (x0:SPr) (x1:zC) (x2:zC) (x3:zL) (x4:List (List Int)) (r:Bool) (h:zPf x0 x1 x2 x3 x4 = some r):FnC Tryz.prog 3 [qPr x0,yR x1,yR x2,wR x3,T.ro (lM x4)] [B r] []:=by
 refine fB Tryz.func3 (fun St W w0 v => ?_)
 refine sR (zDG ?_)
 refine zDG ?_
 refine zDG ?_
 refine zDG ?_
 refine yM ?_
 refine rN (sR (yM ?_))
 refine rN (sR (vL ?_))
 refine zX ?_
 obtain ⟨r1,hr1,h⟩:=bd h
 refine cA Tryz.call9 (FnK.go (t_aT.h _ _) hr1) ?_
 refine yM ?_
 refine rN (CW.seq (sR (zX ?_)))
 refine vZ ?_
 refine rN (cn h (fun hc h => ?_) (fun hc h => ?_))
 refine sR (yM ?_)
 refine rN (CW.ret (rA ?_))
 obtain rfl:=sI h
 exact rT
 refine CW.skip (nA (sR (vL ?_)))
 refine zX ?_
 obtain ⟨r2,hr2,h⟩:=bd h
 refine cA Tryz.call10 (FnK.go (t_aG.h _ _) hr2) ?_
 refine yM ?_
 refine rN (CW.seq (sR (zX ?_)))
 refine vZ ?_
 refine rN (cn h (fun hc h => ?_) (fun hc h => ?_))
 refine sR (yM ?_)
 refine rN (CW.ret (rA ?_))
 obtain rfl:=sI h
 exact rT
 refine CW.skip (nA (sR (vL ?_)))
 refine zX ?_
 obtain ⟨r3,hr3,h⟩:=bd h
 refine cA Tryz.call10 (FnK.go (t_aG.h _ _) hr3) ?_
 refine yM ?_
 refine rN (CW.seq (sR (zX ?_)))
 refine vZ ?_
 refine rN (cn h (fun hc h => ?_) (fun hc h => ?_))
 refine CW.seq (CW.to [] trivial ?_)
 refine CW.region (yM ?_)
 refine rN (CW.ret (rA ?_))
 obtain rfl:=sI h
 exact rT
 refine CW.skip (nA (CW.seq (CW.to [(4,T.ro (lM x4)),(5,T.ptr (qPr x0)),(6,T.ptr (yR x1)),(7,T.ptr (yR x2)),(8,T.ptr (wR x3)),(11,I r3)] ⟨rfl,rfl,rfl,rfl,rfl,rfl,trivial⟩ ?_)))
 refine CW.region (vL ?_)
 refine zX ?_
 obtain ⟨r4,hr4,h⟩:=bd h
 refine cA Tryz.call11 (FnK.go (t_a2.h _ _) hr4) ?_
 refine yM ?_
 refine rN (CW.seq (sR (zX ?_)))
 refine vZ ?_
 refine rN (cn h (fun hc h => ?_) (fun hc h => ?_))
 refine sR (yM ?_)
 refine rN (CW.ret (rA ?_))
 obtain rfl:=sI h
 exact rT
 refine CW.skip (nA (sR (zX ?_)))
 refine zX ?_
 obtain ⟨r5,hr5,h⟩:=bd h
 refine cA Tryz.call12 (FnK.go (t_aa.h _ _) hr5) ?_
 refine yM ?_
 refine rN (CW.seq (sR (zX ?_)))
 refine vZ ?_
 refine rN (cn h (fun hc h => ?_) (fun hc h => ?_))
 refine sR (yM ?_)
 refine rN (CW.ret (rA ?_))
 obtain rfl:=sI h
 exact rT
 refine CW.skip (nA (CW.seq ?_))
 obtain ⟨r6,hr6,h⟩:=bd h
 obtain ⟨r7,hr7,h⟩:=bd h
 obtain ⟨r8,hr8,h⟩:=bd h
 obtain ⟨r9,hr9,h⟩:=bd h
 obtain ⟨r10,hr10,h⟩:=bd h
 obtain ⟨r11,hr11,h⟩:=bd h
 refine CW.dk ?_
 refine xR [(5,_)] ?_
 refine dG [(52,_)] [([(53,some (xU r6))],[(53,0)])] ⟨rfl,trivial⟩ (fun E h => zU.opE (yJ (xs:=[.tmp 52]) Tryz.call14 (FnK.go (t_T.h _) hr6) ⟨(agC _ h.1 rfl rfl),trivial⟩ (wF (f:=xU) inferInstance wK) rfl) rfl) ?_
 refine xR [(6,_)] ?_
 refine dG [(54,_)] [([(55,some (zV r7))],[(55,0)])] ⟨rfl,trivial⟩ (fun E h => zU.opE (yJ (xs:=[.tmp 54]) Tryz.call15 (FnK.go (t_w.h _) hr7) ⟨(agC _ h.1 rfl rfl),trivial⟩ (wF (f:=zV) inferInstance wK) rfl) rfl) ?_
 refine xR [(7,_)] ?_
 refine dG [(56,_)] [([(57,some (zV r8))],[(57,0)])] ⟨rfl,trivial⟩ (fun E h => zU.opE (yJ (xs:=[.tmp 56]) Tryz.call15 (FnK.go (t_w.h _) hr8) ⟨(agC _ h.1 rfl rfl),trivial⟩ (wF (f:=zV) inferInstance wK) rfl) rfl) ?_
 refine xR [(8,_)] ?_
 refine dG [(58,_)] [([(59,some (xT r9))],[(59,0)])] ⟨rfl,trivial⟩ (fun E h => zU.opE (yJ (xs:=[.tmp 58]) Tryz.call16 (FnK.go (t_X.h _) hr9) ⟨(agC _ h.1 rfl rfl),trivial⟩ (wF (f:=xT) inferInstance wK) rfl) rfl) ?_
 refine xP [(4,_)] ?_
 refine dG [(60,_)] [([(61,some (L 1 lV r10))],[(61,0)])] ⟨rfl,trivial⟩ (fun E h => zU.opE (yJ (xs:=[.tmp 60]) Tryz.call17 (FnK.go (t_v.h _) hr10) ⟨(agC _ h.1 rfl rfl),trivial⟩ (wF (f:=lM) inferInstance wK) rfl) rfl) ?_
 refine dG [(53,_),(55,_),(57,_),(59,_),(61,_)] [([(62,some (T.tup [L 1 lV r11.1,I r11.2]))],[(62,0)])] ⟨rfl,rfl,rfl,rfl,rfl,trivial⟩ (fun E h => zU.opE (yJ (xs:=[.tmp 53,.tmp 55,.tmp 57,.tmp 59,.tmp 61]) Tryz.call13 (FnK.go (t_aR.h _ _ _ _ _) hr11) ⟨(agC _ h.1 (tJ (xD (uS inferInstance) (xD (uS inferInstance) (xD (uS inferInstance) tK)))) rfl),⟨(agC _ h.2.1 (tJ (xD rfl (xD rfl (xD (uS inferInstance) tK)))) rfl),⟨(agC _ h.2.2.1 (tJ (xD rfl (xD rfl (xD (uS inferInstance) tK)))) rfl),⟨(agC _ h.2.2.2.1 (tJ (xD rfl (xD rfl (xD (uS inferInstance) tK)))) rfl),⟨(agC _ h.2.2.2.2.1 (uS inferInstance) rfl),trivial⟩⟩⟩⟩⟩ (wF (f:=lM) inferInstance (wF (f:=I) inferInstance wK)) rfl) rfl) ?_
 refine zQ4 [(62,_)] ?_
 refine zKD [(51,_)] ?_
 refine zKD [(51,_)] ?_
 refine zDh [(63,_)] ?_
 refine zDh [(64,_)] ?_
 refine dNA wG ?_
 refine nA (CW.ghost (zN.trq 12 62 [0] rfl rfl rfl (zF (zM (Enc.clean (f:=lV)))) rfl) ?_)
 refine CW.seq (CW.to [(4,T.ro (lM x4)),(5,T.ptr (qPr x0)),(6,T.ptr (yR x1)),(7,T.ptr (yR x2)),(8,T.ptr (wR x3)),(12,L 1 lV r11.1),(13,I r11.2)] ⟨rfl,rfl,rfl,rfl,rfl,rfl,rfl,trivial⟩ ?_)
 refine CW.region (vL ?_)
 obtain ⟨r12,hr12,h⟩:=bd h
 refine oP (yJ (xs:=[.tmp 65]) Tryz.call14 (FnK.go (t_T.h _) hr12) ⟨(agC _ rfl rfl rfl),trivial⟩ (wF (f:=xU) inferInstance wK) rfl) ?_
 refine vU ?_
 refine oP (vP zD2 rfl (wQ rfl rfl) rfl rfl rfl rfl (zF (xL ⟨(zM (Enc.clean (f:=I))),(zM (Enc.clean (f:=lV))),(zM (Enc.clean (f:=lM))),trivial⟩)) rfl) ?_
 refine rN (sR (vL ?_))
 obtain ⟨r13,hr13,h⟩:=bd h
 refine oP (yJ (xs:=[.tmp 67]) Tryz.call15 (FnK.go (t_w.h _) hr13) ⟨(agC _ rfl rfl rfl),trivial⟩ (wF (f:=zV) inferInstance wK) rfl) ?_
 refine vU ?_
 refine oP (vP zJV rfl (wQ rfl rfl) rfl rfl rfl rfl (zF (xL ⟨(Enc.clean (f:=I) _),(Enc.clean (f:=I) _),(zM (Enc.clean (f:=lM))),trivial⟩)) rfl) ?_
 refine rN (sR (vL ?_))
 obtain ⟨r14,hr14,h⟩:=bd h
 refine oP (yJ (xs:=[.tmp 69]) Tryz.call15 (FnK.go (t_w.h _) hr14) ⟨(agC _ rfl rfl rfl),trivial⟩ (wF (f:=zV) inferInstance wK) rfl) ?_
 refine vU ?_
 refine oP (vP zJV rfl (wQ rfl rfl) rfl rfl rfl rfl (zF (xL ⟨(Enc.clean (f:=I) _),(Enc.clean (f:=I) _),(zM (Enc.clean (f:=lM))),trivial⟩)) rfl) ?_
 refine rN (sR (vL ?_))
 obtain ⟨r15,hr15,h⟩:=bd h
 refine oP (yJ (xs:=[.tmp 71]) Tryz.call16 (FnK.go (t_X.h _) hr15) ⟨(agC _ rfl rfl rfl),trivial⟩ (wF (f:=xT) inferInstance wK) rfl) ?_
 refine vU ?_
 refine oP (vP zHe rfl (wQ rfl rfl) rfl rfl rfl rfl (zF (xL ⟨(Enc.clean (f:=I) _),(Enc.clean (f:=I) _),(zM (Enc.clean (f:=lV))),trivial⟩)) rfl) ?_
 refine rN (sR (zX ?_))
 obtain ⟨r16,hr16,h⟩:=bd h
 refine oP (yJ (xs:=[.tmp 73]) Tryz.call17 (FnK.go (t_v.h _) hr16) ⟨(agC _ rfl rfl rfl),trivial⟩ (wF (f:=lM) inferInstance wK) rfl) ?_
 refine yM ?_
 refine RW.ghost (zN.tr 18 74 _ rfl rfl (zF (zM (Enc.clean (f:=lV)))) rfl) ?_
 refine rN (sR (vL ?_))
 refine vL ?_
 refine vL ?_
 refine vL ?_
 refine zX ?_
 obtain ⟨r17,hr17,h⟩:=bd h
 refine oP (yJ (xs:=[.tmp 76,.tmp 77,.tmp 78,.tmp 79,.tmp 80]) Tryz.call18 (FnK.go (t_J.h _ _ _ _ _) hr17) ⟨(agC _ rfl (tJ (xD (tD rfl rfl inferInstance) (xD (tD rfl rfl inferInstance) (xD (tD rfl rfl inferInstance) tK)))) rfl),⟨(agC _ rfl (tJ (xD rfl (xD rfl (xD (tD rfl rfl inferInstance) tK)))) rfl),⟨(agC _ rfl (tJ (xD rfl (xD rfl (xD (tD rfl rfl inferInstance) tK)))) rfl),⟨(agC _ rfl (tJ (xD rfl (xD rfl (xD (tD rfl rfl inferInstance) tK)))) rfl),⟨(agC _ rfl (tD rfl rfl inferInstance) rfl),trivial⟩⟩⟩⟩⟩ (wF (f:=lM) inferInstance (wF (f:=I) inferInstance wK)) rfl) ?_
 refine zQ2 ?_
 refine zK9 ?_
 refine zK9 ?_
 refine yM ?_
 refine yM ?_
 refine RW.ghost (zN.trq 19 81 [0] rfl rfl rfl (zF (zM (Enc.clean (f:=lV)))) rfl) ?_
 refine rN (CW.seq (CW.seq (CW.to [(4,T.ro (lM x4)),(5,T.ptr (qPr x0)),(6,T.ptr (yR x1)),(7,T.ptr (yR x2)),(8,T.ptr (wR x3)),(12,L 1 lV r11.1),(13,I r11.2),(14,T.ptr (xU r12)),(15,T.ptr (zV r13)),(16,T.ptr (zV r14)),(17,T.ptr (xT r15)),(18,L 1 lV r16),(19,L 1 lV r17.1),(20,I r17.2)] ⟨rfl,rfl,rfl,rfl,rfl,rfl,rfl,rfl,rfl,rfl,rfl,rfl,rfl,rfl,trivial⟩ ?_)))
 refine CW.region (zX ?_)
 refine zX ?_
 obtain ⟨r18,hr18,h⟩:=bd h
 refine oP (yJ (xs:=[.tmp 84,.tmp 85]) Tryz.call19 (FnK.go (t_y.h _ _) hr18) ⟨(agC _ rfl (tD rfl rfl inferInstance) rfl),⟨(agC _ rfl (tD rfl rfl inferInstance) rfl),trivial⟩⟩ (wF (f:=B) inferInstance wK) rfl) ?_
 refine zNe ?_
 refine zX ?_
 refine RW.cases 88 _ rfl (fun hc => ?_) (fun hc => ?_)
 have h:=cT hc h
 refine sk2 ?_
 refine sk2 ?_
 refine sk2 ?_
 refine sP ?_
 refine rN (CW.condT rfl ?_)
 refine sR (yM ?_)
 refine rN (CW.ret (rA ?_))
 obtain rfl:=sI h
 exact rT
 have h:=cF hc h
 refine zEN ?_
 refine zEN ?_
 refine zNg ?_
 refine sP ?_
 refine rN (cn h (fun hc h => ?_) (fun hc h => ?_))
 refine sR (yM ?_)
 refine rN (CW.ret (rA ?_))
 obtain rfl:=sI h
 exact rT
 refine CW.skip (nA (CW.seq (CW.seq ?_)))
 obtain ⟨r19,hr19,h⟩:=bd h
 obtain ⟨r20,hr20,h⟩:=bd h
 refine CW.dk ?_
 refine xR [(14,_)] ?_
 refine xR [(5,_)] ?_
 refine dG [(94,_)] [([(95,some (xU r19))],[(95,0)])] ⟨rfl,trivial⟩ (fun E h => zU.opE (yJ (xs:=[.tmp 94]) Tryz.call14 (FnK.go (t_T.h _) hr19) ⟨(agC _ h.1 rfl rfl),trivial⟩ (wF (f:=xU) inferInstance wK) rfl) rfl) ?_
 refine dG [(93,_),(14,_),(95,_)] [([(96,some (B r20))],[(96,0)])] ⟨rfl,rfl,rfl,trivial⟩ (fun E h => zU.opE (yJ (xs:=[.tmp 93,.tmp 95]) Tryz.call20 (FnK.go (t_aU.h _ _) hr20) ⟨(agC _ h.1 (tJ (xD (tD h.2.1 rfl inferInstance) (xD (tD h.2.1 rfl inferInstance) (xD (tD h.2.1 rfl inferInstance) tK)))) rfl),⟨(agC _ h.2.2.1 (tJ (xD (uS inferInstance) (xD (uS inferInstance) (xD (uS inferInstance) tK)))) rfl),trivial⟩⟩ (wF (f:=B) inferInstance wK) rfl) rfl) ?_
 refine zHO [(96,_)] ?_
 refine dNA wG ?_
 refine nA (cn h (fun hc h => ?_) (fun hc h => ?_))
 refine sR (yM ?_)
 refine rN (CW.ret (rA ?_))
 obtain rfl:=sI h
 exact rT
 refine CW.skip (nA (CW.seq (CW.seq ?_)))
 obtain ⟨r21,hr21,h⟩:=bd h
 obtain ⟨r22,hr22,h⟩:=bd h
 refine CW.dk ?_
 refine xR [(15,_)] ?_
 refine xR [(6,_)] ?_
 refine dG [(99,_)] [([(100,some (zV r21))],[(100,0)])] ⟨rfl,trivial⟩ (fun E h => zU.opE (yJ (xs:=[.tmp 99]) Tryz.call15 (FnK.go (t_w.h _) hr21) ⟨(agC _ h.1 rfl rfl),trivial⟩ (wF (f:=zV) inferInstance wK) rfl) rfl) ?_
 refine dG [(98,_),(15,_),(100,_)] [([(101,some (B r22))],[(101,0)])] ⟨rfl,rfl,rfl,trivial⟩ (fun E h => zU.opE (yJ (xs:=[.tmp 98,.tmp 100]) Tryz.call21 (FnK.go (t_aH.h _ _) hr22) ⟨(agC _ h.1 (tJ (xD rfl (xD rfl (xD (tD h.2.1 rfl inferInstance) tK)))) rfl),⟨(agC _ h.2.2.1 (tJ (xD rfl (xD rfl (xD (uS inferInstance) tK)))) rfl),trivial⟩⟩ (wF (f:=B) inferInstance wK) rfl) rfl) ?_
 refine zHO [(101,_)] ?_
 refine dNA wG ?_
 refine nA (cn h (fun hc h => ?_) (fun hc h => ?_))
 refine sR (yM ?_)
 refine rN (CW.ret (rA ?_))
 obtain rfl:=sI h
 exact rT
 refine CW.skip (nA (CW.seq (CW.seq ?_)))
 obtain ⟨r23,hr23,h⟩:=bd h
 obtain ⟨r24,hr24,h⟩:=bd h
 refine CW.dk ?_
 refine xR [(16,_)] ?_
 refine xR [(7,_)] ?_
 refine dG [(104,_)] [([(105,some (zV r23))],[(105,0)])] ⟨rfl,trivial⟩ (fun E h => zU.opE (yJ (xs:=[.tmp 104]) Tryz.call15 (FnK.go (t_w.h _) hr23) ⟨(agC _ h.1 rfl rfl),trivial⟩ (wF (f:=zV) inferInstance wK) rfl) rfl) ?_
 refine dG [(103,_),(16,_),(105,_)] [([(106,some (B r24))],[(106,0)])] ⟨rfl,rfl,rfl,trivial⟩ (fun E h => zU.opE (yJ (xs:=[.tmp 103,.tmp 105]) Tryz.call21 (FnK.go (t_aH.h _ _) hr24) ⟨(agC _ h.1 (tJ (xD rfl (xD rfl (xD (tD h.2.1 rfl inferInstance) tK)))) rfl),⟨(agC _ h.2.2.1 (tJ (xD rfl (xD rfl (xD (uS inferInstance) tK)))) rfl),trivial⟩⟩ (wF (f:=B) inferInstance wK) rfl) rfl) ?_
 refine zHO [(106,_)] ?_
 refine dNA wG ?_
 refine nA (cn h (fun hc h => ?_) (fun hc h => ?_))
 refine CW.seq (CW.to [] trivial ?_)
 refine CW.region (yM ?_)
 refine rN (CW.ret (rA ?_))
 obtain rfl:=sI h
 exact rT
 refine CW.skip (nA (CW.seq (CW.seq (CW.to [(4,T.ro (lM x4)),(5,T.ptr (qPr x0)),(6,T.ptr (yR x1)),(7,T.ptr (yR x2)),(8,T.ptr (wR x3)),(12,L 1 lV r11.1),(13,I r11.2),(14,T.ptr (xU r12)),(15,T.ptr (zV r13)),(16,T.ptr (zV r14)),(17,T.ptr (xT r15)),(18,L 1 lV r16),(19,L 1 lV r17.1),(20,I r17.2)] ⟨rfl,rfl,rfl,rfl,rfl,rfl,rfl,rfl,rfl,rfl,rfl,rfl,rfl,rfl,trivial⟩ ?_))))
 obtain ⟨r25,hr25,h⟩:=bd h
 obtain ⟨r26,hr26,h⟩:=bd h
 refine CW.dk ?_
 refine xR [(17,_)] ?_
 refine xR [(8,_)] ?_
 refine dG [(109,_)] [([(110,some (xT r25))],[(110,0)])] ⟨rfl,trivial⟩ (fun E h => zU.opE (yJ (xs:=[.tmp 109]) Tryz.call16 (FnK.go (t_X.h _) hr25) ⟨(agC _ h.1 rfl rfl),trivial⟩ (wF (f:=xT) inferInstance wK) rfl) rfl) ?_
 refine dG [(108,_),(17,_),(110,_)] [([(111,some (B r26))],[(111,0)])] ⟨rfl,rfl,rfl,trivial⟩ (fun E h => zU.opE (yJ (xs:=[.tmp 108,.tmp 110]) Tryz.call22 (FnK.go (t_a0.h _ _) hr26) ⟨(agC _ h.1 (tJ (xD rfl (xD rfl (xD (tD h.2.1 rfl inferInstance) tK)))) rfl),⟨(agC _ h.2.2.1 (tJ (xD rfl (xD rfl (xD (uS inferInstance) tK)))) rfl),trivial⟩⟩ (wF (f:=B) inferInstance wK) rfl) rfl) ?_
 refine zHO [(111,_)] ?_
 refine dNA wG ?_
 refine nA (cn h (fun hc h => ?_) (fun hc h => ?_))
 refine sR (yM ?_)
 refine rN (CW.ret (rA ?_))
 obtain rfl:=sI h
 exact rT
 refine CW.skip (nA (CW.seq (sR (zX ?_))))
 refine zX ?_
 obtain ⟨r27,hr27,h⟩:=bd h
 refine oP (yJ (xs:=[.tmp 114]) Tryz.call17 (FnK.go (t_v.h _) hr27) ⟨(agC _ rfl rfl rfl),trivial⟩ (wF (f:=lM) inferInstance wK) rfl) ?_
 obtain ⟨r28,hr28,h⟩:=bd h
 refine cA Tryz.call19 (FnK.go (t_y.h _ _) hr28) ?_
 refine zNe ?_
 refine rN (cn h (fun hc h => ?_) (fun hc h => ?_))
 refine sR (yM ?_)
 refine rN (CW.ret (rA ?_))
 obtain rfl:=sI h
 exact rT
 refine CW.skip (nA (sR (yM ?_)))
 refine rN (sR (vL ?_))
 refine zX ?_
 obtain ⟨r29,hr29,h⟩:=bd h
 refine oP (zDW (xs:=[.tmp 118,.tmp 119]) 0 118 14 [(0,[0,0]),(1,[1,0]),(2,[2,0])] 2 Tryz.call23 (t_aZ.h _ _ _ hr29) (.cons 0 [0,0] _ _ _ _ _ rfl rfl rfl rfl (zF (zM (Enc.clean (f:=I)))) rfl rfl rfl (.cons 1 [1,0] _ _ _ _ _ rfl rfl rfl rfl (zF (zM (Enc.clean (f:=lV)))) rfl rfl rfl (.cons 2 [2,0] _ _ _ _ _ rfl rfl rfl rfl (zF (zM (Enc.clean (f:=lM)))) rfl rfl rfl (.nil _)))) rfl (Enc.clean (f:=xU) _) (Enc.rofree (f:=xU) _) ⟨(zEJ rfl (Enc.clean (f:=xU) _) (Enc.rofree (f:=xU) _)),⟨(agM _ rfl rfl rfl),trivial⟩⟩ (wF (f:=I) inferInstance wK) (.cons 0 [0,0] _ _ _ _ _ _ rfl rfl rfl rfl (zF (zM (Enc.clean (f:=I)))) rfl rfl rfl (.cons 1 [1,0] _ _ _ _ _ _ rfl rfl rfl rfl (zF (zM (Enc.clean (f:=lV)))) rfl rfl rfl (.cons 2 [2,0] _ _ _ _ _ _ rfl rfl rfl rfl (zF (zM (Enc.clean (f:=lM)))) rfl rfl rfl (.nil _)))) rfl rfl rfl) ?_
 refine yM ?_
 refine rN (sR (vL ?_))
 refine zX ?_
 obtain ⟨r30,hr30,h⟩:=bd h
 refine oP (zDW (xs:=[.tmp 121,.tmp 122]) 0 121 15 [(2,[2,0])] 2 Tryz.call24 (t_aI.h _ _ _ hr30) (.cons 2 [2,0] _ _ _ _ _ rfl rfl rfl rfl (zF (zM (Enc.clean (f:=lM)))) rfl rfl rfl (.nil _)) rfl (Enc.clean (f:=zV) _) (Enc.rofree (f:=zV) _) ⟨(zEJ rfl (Enc.clean (f:=zV) _) (Enc.rofree (f:=zV) _)),⟨(agM _ rfl rfl rfl),trivial⟩⟩ (wF (f:=I) inferInstance wK) (.cons 2 [2,0] _ _ _ _ _ _ rfl rfl rfl rfl (zF (zM (Enc.clean (f:=lM)))) rfl rfl rfl (.nil _)) rfl rfl rfl) ?_
 refine yM ?_
 refine rN (sR (vL ?_))
 refine zX ?_
 obtain ⟨r31,hr31,h⟩:=bd h
 refine oP (zDW (xs:=[.tmp 124,.tmp 125]) 0 124 16 [(2,[2,0])] 2 Tryz.call24 (t_aI.h _ _ _ hr31) (.cons 2 [2,0] _ _ _ _ _ rfl rfl rfl rfl (zF (zM (Enc.clean (f:=lM)))) rfl rfl rfl (.nil _)) rfl (Enc.clean (f:=zV) _) (Enc.rofree (f:=zV) _) ⟨(zEJ rfl (Enc.clean (f:=zV) _) (Enc.rofree (f:=zV) _)),⟨(agM _ rfl rfl rfl),trivial⟩⟩ (wF (f:=I) inferInstance wK) (.cons 2 [2,0] _ _ _ _ _ _ rfl rfl rfl rfl (zF (zM (Enc.clean (f:=lM)))) rfl rfl rfl (.nil _)) rfl rfl rfl) ?_
 refine yM ?_
 refine rN (sR (vL ?_))
 refine zX ?_
 obtain ⟨r32,hr32,h⟩:=bd h
 refine oP (zDW (xs:=[.tmp 127,.tmp 128]) 0 127 17 [(2,[2,0])] 2 Tryz.call25 (t_a1.h _ _ _ hr32) (.cons 2 [2,0] _ _ _ _ _ rfl rfl rfl rfl (zF (zM (Enc.clean (f:=lV)))) rfl rfl rfl (.nil _)) rfl (Enc.clean (f:=xT) _) (Enc.rofree (f:=xT) _) ⟨(zEJ rfl (Enc.clean (f:=xT) _) (Enc.rofree (f:=xT) _)),⟨(agM _ rfl rfl rfl),trivial⟩⟩ (wF (f:=I) inferInstance wK) (.cons 2 [2,0] _ _ _ _ _ _ rfl rfl rfl rfl (zF (zM (Enc.clean (f:=lV)))) rfl rfl rfl (.nil _)) rfl rfl rfl) ?_
 refine yM ?_
 refine rN (CW.seq (CW.to [(4,T.ro (lM x4)),(5,T.ptr (qPr x0)),(6,T.ptr (yR x1)),(7,T.ptr (yR x2)),(8,T.ptr (wR x3)),(12,L 1 lV r11.1),(13,I r11.2),(18,L 1 lV r16),(19,L 1 lV r17.1),(20,I r17.2),(21,I r32.1)] ⟨rfl,rfl,rfl,rfl,rfl,rfl,rfl,rfl,rfl,rfl,rfl,trivial⟩ ?_))
 refine CW.region (zX ?_)
 refine zX ?_
 obtain ⟨r33,hr33,h⟩:=bd h
 refine oP (zC8 (xs:=[.tmp 130,.tmp 131]) 0 130 18 [] Tryz.call26 (t_G.h _ _ _ hr33) rfl rfl rfl (zF (zM (Enc.clean (f:=lV)))) (zF (zM (Enc.clean (f:=lV)))) (Enc.rofree (f:=L 1 lV) _) (Enc.rofree (f:=L 1 lV) _) ⟨(zEJ rfl (zF (zM (Enc.clean (f:=lV)))) (Enc.rofree (f:=L 1 lV) _)),⟨(agM _ rfl rfl rfl),trivial⟩⟩ (wF (f:=I) inferInstance wK) rfl rfl rfl rfl) ?_
 refine yM ?_
 refine rN (CW.seq (sR (zX ?_)))
 refine vZ ?_
 refine zX ?_
 refine RW.cases 135 _ rfl (fun hc => ?_) (fun hc => ?_)
 have h:=cT hc h
 refine sk2 ?_
 refine sk2 ?_
 refine sk2 ?_
 refine sk2 ?_
 refine sP ?_
 refine zX ?_
 refine sk2 ?_
 refine sk2 ?_
 refine sk2 ?_
 refine sP ?_
 refine rN (CW.condT rfl ?_)
 refine sR (yM ?_)
 refine rN (CW.ret (rA ?_))
 obtain rfl:=sI h
 exact rT
 have h:=cF hc h
 refine zEN ?_
 refine zEN ?_
 obtain ⟨r34,hr34,h⟩:=bd h
 refine RW.cons (zU.guard 2 false 135 (yJ (xs:=[.tmp 136,.tmp 137]) Tryz.call19 (FnK.go (t_y.h _ _) hr34) ⟨(agC _ rfl (tD rfl rfl inferInstance) rfl),⟨(agC _ rfl (tD rfl rfl inferInstance) rfl),trivial⟩⟩ (wF (f:=B) inferInstance wK) rfl)) ?_
 refine zQ0 ?_
 refine sP ?_
 refine zX ?_
 refine RW.cases 141 _ rfl (fun hc => ?_) (fun hc => ?_)
 have h:=cT hc h
 refine sk2 ?_
 refine sk2 ?_
 refine sk2 ?_
 refine sP ?_
 refine rN (CW.condT rfl ?_)
 refine sR (yM ?_)
 refine rN (CW.ret (rA ?_))
 obtain rfl:=sI h
 exact rT
 have h:=cF hc h
 refine zEN ?_
 refine zEN ?_
 refine zNg ?_
 refine sP ?_
 refine rN (cn h (fun hc h => ?_) (fun hc h => ?_))
 refine sR (yM ?_)
 refine rN (CW.ret (rA ?_))
 obtain rfl:=sI h
 exact rT
 refine CW.skip (nA (sR (yM ?_)))
 refine rN (sR (zX ?_))
 refine zX ?_
 obtain ⟨r35,hr35,h⟩:=bd h
 refine oP (zC8 (xs:=[.tmp 146,.tmp 147]) 0 146 19 [] Tryz.call26 (t_G.h _ _ _ hr35) rfl rfl rfl (zF (zM (Enc.clean (f:=lV)))) (zF (zM (Enc.clean (f:=lV)))) (Enc.rofree (f:=L 1 lV) _) (Enc.rofree (f:=L 1 lV) _) ⟨(zEJ rfl (zF (zM (Enc.clean (f:=lV)))) (Enc.rofree (f:=L 1 lV) _)),⟨(agM _ rfl rfl rfl),trivial⟩⟩ (wF (f:=I) inferInstance wK) rfl rfl rfl rfl) ?_
 refine yM ?_
 refine rN (sR (yM ?_))
 refine rN (sR (zX ?_))
 refine zX ?_
 obtain ⟨r36,hr36,h⟩:=bd h
 refine oP (yJ (xs:=[.tmp 149,.tmp 150]) Tryz.call27 (FnK.go (t_ac.h _ _) hr36) ⟨(agC _ rfl (tD rfl rfl inferInstance) rfl),⟨(agC _ rfl rfl rfl),trivial⟩⟩ (wF (f:=I) inferInstance wK) rfl) ?_
 refine yM ?_
 refine rN (CW.seq (CW.seq (CW.to [(4,T.ro (lM x4)),(5,T.ptr (qPr x0)),(6,T.ptr (yR x1)),(7,T.ptr (yR x2)),(8,T.ptr (wR x3)),(12,L 1 lV r11.1),(13,I r11.2),(19,L 1 lV r35.2),(22,I r35.1),(23,I r36)] ⟨rfl,rfl,rfl,rfl,rfl,rfl,rfl,rfl,rfl,rfl,trivial⟩ ?_)))
 refine CW.region (zX ?_)
 refine vZ ?_
 refine rN (cn h (fun hc h => ?_) (fun hc h => ?_))
 refine sR (yM ?_)
 refine rN (CW.ret (rA ?_))
 obtain rfl:=sI h
 exact rT
 refine CW.skip (nA (CW.seq (sR (zX ?_))))
 refine zX ?_
 refine zNf ?_
 refine rN (cn h (fun hc h => ?_) (fun hc h => ?_))
 refine sR (yM ?_)
 refine rN (CW.ret (rA ?_))
 obtain rfl:=sI h
 exact rT
 refine CW.skip (nA (CW.seq ?_))
 obtain ⟨r37,hr37,h⟩:=bd h
 obtain ⟨r38,hr38,h⟩:=bd h
 obtain ⟨r39,hr39,h⟩:=bd h
 obtain ⟨r40,hr40,h⟩:=bd h
 obtain ⟨r41,hr41,h⟩:=bd h
 obtain ⟨r42,hr42,h⟩:=bd h
 refine CW.dk ?_
 refine xR [(5,_)] ?_
 refine dG [(158,_)] [([(159,some (xU r37))],[(159,0)])] ⟨rfl,trivial⟩ (fun E h => zU.opE (yJ (xs:=[.tmp 158]) Tryz.call14 (FnK.go (t_T.h _) hr37) ⟨(agC _ h.1 rfl rfl),trivial⟩ (wF (f:=xU) inferInstance wK) rfl) rfl) ?_
 refine xR [(6,_)] ?_
 refine dG [(160,_)] [([(161,some (zV r38))],[(161,0)])] ⟨rfl,trivial⟩ (fun E h => zU.opE (yJ (xs:=[.tmp 160]) Tryz.call15 (FnK.go (t_w.h _) hr38) ⟨(agC _ h.1 rfl rfl),trivial⟩ (wF (f:=zV) inferInstance wK) rfl) rfl) ?_
 refine xR [(7,_)] ?_
 refine dG [(162,_)] [([(163,some (zV r39))],[(163,0)])] ⟨rfl,trivial⟩ (fun E h => zU.opE (yJ (xs:=[.tmp 162]) Tryz.call15 (FnK.go (t_w.h _) hr39) ⟨(agC _ h.1 rfl rfl),trivial⟩ (wF (f:=zV) inferInstance wK) rfl) rfl) ?_
 refine xR [(8,_)] ?_
 refine dG [(164,_)] [([(165,some (xT r40))],[(165,0)])] ⟨rfl,trivial⟩ (fun E h => zU.opE (yJ (xs:=[.tmp 164]) Tryz.call16 (FnK.go (t_X.h _) hr40) ⟨(agC _ h.1 rfl rfl),trivial⟩ (wF (f:=xT) inferInstance wK) rfl) rfl) ?_
 refine xP [(4,_)] ?_
 refine dG [(166,_)] [([(167,some (L 1 lV r41))],[(167,0)])] ⟨rfl,trivial⟩ (fun E h => zU.opE (yJ (xs:=[.tmp 166]) Tryz.call17 (FnK.go (t_v.h _) hr41) ⟨(agC _ h.1 rfl rfl),trivial⟩ (wF (f:=lM) inferInstance wK) rfl) rfl) ?_
 refine dG [(159,_),(161,_),(163,_),(165,_),(167,_)] [([(168,some (T.tup [L 1 lV r42.1,I r42.2]))],[(168,0)])] ⟨rfl,rfl,rfl,rfl,rfl,trivial⟩ (fun E h => zU.opE (yJ (xs:=[.tmp 159,.tmp 161,.tmp 163,.tmp 165,.tmp 167]) Tryz.call18 (FnK.go (t_J.h _ _ _ _ _) hr42) ⟨(agC _ h.1 (tJ (xD (uS inferInstance) (xD (uS inferInstance) (xD (uS inferInstance) tK)))) rfl),⟨(agC _ h.2.1 (tJ (xD rfl (xD rfl (xD (uS inferInstance) tK)))) rfl),⟨(agC _ h.2.2.1 (tJ (xD rfl (xD rfl (xD (uS inferInstance) tK)))) rfl),⟨(agC _ h.2.2.2.1 (tJ (xD rfl (xD rfl (xD (uS inferInstance) tK)))) rfl),⟨(agC _ h.2.2.2.2.1 (uS inferInstance) rfl),trivial⟩⟩⟩⟩⟩ (wF (f:=lM) inferInstance (wF (f:=I) inferInstance wK)) rfl) rfl) ?_
 refine zQ4 [(168,_)] ?_
 refine zKD [(157,_)] ?_
 refine zKD [(157,_)] ?_
 refine zDh [(169,_)] ?_
 refine zDh [(170,_)] ?_
 refine dNA wG ?_
 refine nA (CW.ghost (zN.trq 24 168 [0] rfl rfl rfl (zF (zM (Enc.clean (f:=lV)))) rfl) ?_)
 refine CW.seq (sR (zX ?_))
 refine zX ?_
 obtain ⟨r43,hr43,h⟩:=bd h
 refine cA Tryz.call19 (FnK.go (t_y.h _ _) hr43) ?_
 refine zNe ?_
 refine zX ?_
 refine RW.cases 175 _ rfl (fun hc => ?_) (fun hc => ?_)
 have h:=cT hc h
 refine sk2 ?_
 refine sk2 ?_
 refine sk2 ?_
 refine sP ?_
 refine rN (CW.condT rfl ?_)
 refine CW.seq (CW.to [] trivial ?_)
 refine CW.region (yM ?_)
 refine rN (CW.ret (rA ?_))
 obtain rfl:=sI h
 exact rT
 have h:=cF hc h
 refine zEN ?_
 refine zEN ?_
 refine zNg ?_
 refine sP ?_
 refine rN (cn h (fun hc h => ?_) (fun hc h => ?_))
 refine CW.seq (CW.to [] trivial ?_)
 refine CW.region (yM ?_)
 refine rN (CW.ret (rA ?_))
 obtain rfl:=sI h
 exact rT
 refine CW.skip (nA (CW.seq (CW.to [(19,L 1 lV r35.2),(22,I r35.1)] ⟨rfl,rfl,trivial⟩ ?_)))
 refine CW.region (yM ?_)
 refine rN (sR (zX ?_))
 refine zX ?_
 obtain ⟨r44,hr44,h⟩:=bd h
 refine oP (yJ (xs:=[.tmp 180,.tmp 181]) Tryz.call27 (FnK.go (t_ac.h _ _) hr44) ⟨(agC _ rfl (tD rfl rfl inferInstance) rfl),⟨(agC _ rfl rfl rfl),trivial⟩⟩ (wF (f:=I) inferInstance wK) rfl) ?_
 refine yM ?_
 refine rN (CW.seq (sR (zX ?_)))
 refine vZ ?_
 refine rN (cn h (fun hc h => ?_) (fun hc h => ?_))
 refine sR (yM ?_)
 refine rN (CW.ret (rA ?_))
 obtain rfl:=sI h
 exact rT
 refine CW.skip (nA (CW.seq (sR (zX ?_))))
 refine zX ?_
 refine zNf ?_
 refine rN (cn h (fun hc h => ?_) (fun hc h => ?_))
 refine sR (yM ?_)
 refine rN (CW.ret (rA ?_))
 obtain rfl:=sI h
 exact rT
 refine CW.skip (nA (sR (yM ?_)))
 refine rN (CW.ret ?_)
 obtain rfl:=sI h
 exact rT
instance t_aE:FI Tryz.prog 3 (∀ (x0:SPr) (x1:zC) (x2:zC) (x3:zL) (x4:List (List Int)),FnK Tryz.prog 3 [qPr x0,yR x1,yR x2,wR x3,T.ro (lM x4)] (fun r:Bool => [B r]) (fun _ => []) (zPf x0 x1 x2 x3 x4)):=⟨Tryz.call3,fun x0 x1 x2 x3 x4 => FnK.mk (zUx x0 x1 x2 x3 x4)⟩
section
attribute [local irreducible] RW CW DK OkL Ok xG xH wW vM XS.post rng uJ vQ ixO yB wJ vF yP zJ GTo zN FnC FnK vT tE Kp Lk BsL BuL RpL Bk Lc
instance:GHs Tryz.f130.results:=⟨⟩
instance:GH Tryz.f130.results 2 2 0 (.tr 5 12):=⟨⟩
instance:GH Tryz.f130.results 2 6 0 (.tr 7 25):=⟨⟩
instance:GH Tryz.f130.results 0 7 0 (.fz 40):=⟨⟩
instance:GH Tryz.f130.results 2 10 0 (.tr 9 41):=⟨⟩
instance:GH Tryz.f130.results 0 62 0 (.tr 59 9):=⟨⟩
instance:GH Tryz.f130.results 2 15 0 (.tr 9 62):=⟨⟩
instance:GH Tryz.f130.results 0 80 0 (.fz 79):=⟨⟩
instance:GH Tryz.f130.results 0 81 0 (.tr 63 9):=⟨⟩
instance:GH Tryz.f130.results 0 87 0 (.tr 84 9):=⟨⟩
instance:GH Tryz.f130.results 2 19 0 (.tr 9 87):=⟨⟩
instance:GH Tryz.f130.results 2 4 0 (.tr 5 9):=⟨⟩
instance:GHs Tryz.f163.results:=⟨⟩
instance:GH Tryz.f163.results 2 2 0 (.tr 5 10):=⟨⟩
instance:GH Tryz.f163.results 2 3 0 (.tr 6 11):=⟨⟩
instance:GH Tryz.f163.results 0 30 0 (.tr 18 6):=⟨⟩
instance:GH Tryz.f163.results 0 33 0 (.fz 6):=⟨⟩
instance:GH Tryz.f163.results 0 33 1 (.res 32 6 []):=⟨⟩
end
section
attribute [local irreducible] RW CW DK OkL Ok xG xH wW vM XS.post rng uJ vQ ixO yB wJ vF yP zJ GTo zN FnC FnK vT tE Kp Lk BsL BuL RpL Bk Lc
end
section
attribute [local irreducible] RW CW DK OkL Ok xG xH wW vM XS.post rng uJ vQ ixO yB wJ vF yP zJ GTo zN FnC FnK vT tE Kp Lk BsL BuL RpL Bk Lc
end
end Go.Wk

namespace Go.Wk
open Go Go.Proofs Go.Ab
set_option maxRecDepth 100000
set_option maxHeartbeats 4000000
section
attribute [local irreducible] RW CW DK OkL Ok xG xH wW vM XS.post rng uJ vQ ixO yB wJ vF yP zJ GTo zN FnC FnK vT tE Kp Lk BsL BuL RpL Bk Lc
end
section
attribute [local irreducible] RW CW DK OkL Ok xG xH wW vM XS.post rng uJ vQ ixO yB wJ vF yP zJ GTo zN FnC FnK vT tE Kp Lk BsL BuL RpL Bk Lc
end
section
attribute [local irreducible] RW CW DK OkL Ok xG xH wW vM XS.post rng uJ vQ ixO yB wJ vF yP zJ GTo zN FnC FnK vT tE Kp Lk BsL BuL RpL Bk Lc
end
section
attribute [local irreducible] RW CW DK OkL Ok xG xH wW vM XS.post rng uJ vQ ixO yB wJ vF yP zJ GTo zN FnC FnK vT tE Kp Lk BsL BuL RpL Bk Lc
instance:GHs Tryz.f118.results:=⟨⟩
instance:GH Tryz.f118.results 0 14 0 (.fz 13):=⟨⟩
instance:GH Tryz.f118.results 0 28 0 (.tr 23 7):=⟨⟩
instance:GH Tryz.f118.results 2 7 0 (.tr 7 28):=⟨⟩
end
end Go.Wk

namespace Go.Wk
open Go Go.Proofs Go.Ab
set_option maxRecDepth 100000
set_option maxHeartbeats 4000000
section
attribute [local irreducible] RW CW DK OkL Ok xG xH wW vM XS.post rng uJ vQ ixO yB wJ vF yP zJ GTo zN FnC FnK vT tE Kp Lk BsL BuL RpL Bk Lc
instance:GHs Tryz.f4.results:=⟨⟩
instance:GH Tryz.f4.results 2 9 0 (.trq 6 32 [0]):=⟨⟩
instance:GH Tryz.f4.results 2 12 0 (.trq 10 42 [0]):=⟨⟩
instance:GH Tryz.f4.results 2 32 0 (.trq 15 99 [0]):=⟨⟩
end
section
attribute [local irreducible] RW CW DK OkL Ok xG xH wW vM XS.post rng uJ vQ ixO yB wJ vF yP zJ GTo zN FnC FnK vT tE Kp Lk BsL BuL RpL Bk Lc
instance:GHs Tryz.f180.results:=⟨⟩
instance:GH Tryz.f180.results 2 3 0 (.tr 8 22):=⟨⟩
instance:GH Tryz.f180.results 2 4 0 (.tr 9 23):=⟨⟩
instance:GH Tryz.f180.results 2 5 0 (.fz 8):=⟨⟩
instance:GH Tryz.f180.results 2 10 0 (.tr 11 43):=⟨⟩
instance:GH Tryz.f180.results 0 62 0 (.tr 44 9):=⟨⟩
instance:GH Tryz.f180.results 2 13 0 (.fz 8):=⟨⟩
instance:GH Tryz.f180.results 2 20 0 (.tr 15 83):=⟨⟩
instance:GH Tryz.f180.results 0 102 0 (.fz 90):=⟨⟩
instance:GH Tryz.f180.results 0 113 0 (.tr 103 9):=⟨⟩
instance:GH Tryz.f180.results 2 18 0 (.tr 9 113):=⟨⟩
instance:GHs Tryz.f125.results:=⟨⟩
instance:GH Tryz.f125.results 0 10 0 (.fz 9):=⟨⟩
instance:GHs Tryz.f70.results:=⟨⟩
instance:GH Tryz.f70.results 2 2 0 (.tr 5 11):=⟨⟩
instance:GH Tryz.f70.results 2 2 1 (.tr 6 14):=⟨⟩
instance:GH Tryz.f70.results 2 3 0 (.tr 7 15):=⟨⟩
instance:GH Tryz.f70.results 0 32 0 (.tr 22 7):=⟨⟩
instance:GH Tryz.f70.results 0 36 0 (.fz 7):=⟨⟩
instance:GH Tryz.f70.results 0 36 1 (.res 35 7 []):=⟨⟩
instance:GHs Tryz.f64.results:=⟨⟩
instance:GH Tryz.f64.results 0 6 0 (.fz 5):=⟨⟩
instance:GHs Tryz.f124.results:=⟨⟩
instance:GH Tryz.f124.results 0 24 0 (.trq 23 22 [2]):=⟨⟩
instance:GH Tryz.f124.results 0 25 0 (.trq 19 7 [2,0]):=⟨⟩
instance:GH Tryz.f124.results 1 6 0 (.trf 28 2 7 [2,0]):=⟨⟩
end
end Go.Wk

namespace Go.Wk
open Go Go.Proofs Go.Ab
set_option maxRecDepth 100000
set_option maxHeartbeats 4000000
section
attribute [local irreducible] RW CW DK OkL Ok xG xH wW vM XS.post rng uJ vQ ixO yB wJ vF yP zJ GTo zN FnC FnK vT tE Kp Lk BsL BuL RpL Bk Lc
instance:GHs Tryz.f128.results:=⟨⟩
instance:GH Tryz.f128.results 0 13 0 (.fz 12):=⟨⟩
instance:GH Tryz.f128.results 2 6 0 (.tr 10 22):=⟨⟩
instance:GH Tryz.f128.results 0 36 0 (.tr 35 10):=⟨⟩
instance:GH Tryz.f128.results 0 37 0 (.tr 34 7):=⟨⟩
instance:GH Tryz.f128.results 2 8 0 (.tr 7 37):=⟨⟩
instance:GHs Tryz.f35.results:=⟨⟩
instance:GH Tryz.f35.results 0 27 0 (.tr 22 6):=⟨⟩
instance:GH Tryz.f35.results 2 8 0 (.tr 6 27):=⟨⟩
instance:GH Tryz.f35.results 2 10 0 (.trq 9 40 [0]):=⟨⟩
instance:GH Tryz.f35.results 3 2 0 (.tr 45 9):=⟨⟩
instance:GH Tryz.f35.results 0 57 0 (.tr 51 11):=⟨⟩
instance:GH Tryz.f35.results 2 17 0 (.tr 11 57):=⟨⟩
instance:GHs Tryz.f7.results:=⟨⟩
instance:GH Tryz.f7.results 2 9 0 (.trq 6 32 [0]):=⟨⟩
instance:GH Tryz.f7.results 2 12 0 (.trq 10 42 [0]):=⟨⟩
instance:GH Tryz.f7.results 2 32 0 (.trq 15 99 [0]):=⟨⟩
end
section
attribute [local irreducible] RW CW DK OkL Ok xG xH wW vM XS.post rng uJ vQ ixO yB wJ vF yP zJ GTo zN FnC FnK vT tE Kp Lk BsL BuL RpL Bk Lc
end
section
attribute [local irreducible] RW CW DK OkL Ok xG xH wW vM XS.post rng uJ vQ ixO yB wJ vF yP zJ GTo zN FnC FnK vT tE Kp Lk BsL BuL RpL Bk Lc
end
section
attribute [local irreducible] RW CW DK OkL Ok xG xH wW vM XS.post rng uJ vQ ixO yB wJ vF yP zJ GTo zN FnC FnK vT tE Kp Lk BsL BuL RpL Bk Lc
end
section
attribute [local irreducible] RW CW DK OkL Ok xG xH wW vM XS.post rng uJ vQ ixO yB wJ vF yP zJ GTo zN FnC FnK vT tE Kp Lk BsL BuL RpL Bk Lc
instance:GHs Tryz.f85.results:=⟨⟩
instance:GH Tryz.f85.results 2 4 0 (.tr 8 19):=⟨⟩
instance:GH Tryz.f85.results 0 35 0 (.fz 34):=⟨⟩
instance:GH Tryz.f85.results 2 6 0 (.trq 9 37 [0]):=⟨⟩
end
end Go.Wk
