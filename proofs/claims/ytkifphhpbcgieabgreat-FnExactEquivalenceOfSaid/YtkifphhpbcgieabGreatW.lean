/- The program and the reference return the same equivalences of extensions, for all arguments (FnExactEquivalenceOf). This file is a part of the proof. -/
import Derived.Test.YtkifphhpbcgieabGreatWT
namespace Go.Wk
open Go Go.Proofs Go.Ab
set_option maxRecDepth 100000
set_option maxHeartbeats 4000000
section
attribute [local irreducible] RW CW DK OkL Ok wA wG vV vW XS.post rng tV uQ ixO zX xQ vR yZ zH GTo zL FnC FnK uR qH Kp Lk BsL BuL RpL Bk Lc
instance t_a9:FI Tryz.prog 32 (∀ (x0:List Int) (x1:Int),FnK Tryz.prog 32 [T.ro (lV x0),I x1] (fun r:Int => [I r]) (fun _ => []) (zQ8 x0 x1)):=⟨Tryz.call32,fun x0 x1 => iF Tryz.func32⟩
instance (x0:List (List Int)):LH (R:=Int) (zUi x0) [0] [] (fun s1 => [(1,I s1.1),(5,I s1.2)]) (.xs (.xe 0 [0] fun r5 => [(1,I r5)]) .xr):=⟨⟩
instance t_ae:FI Tryz.prog 9 (∀ (x0:List (List Int)) (x1:Int),FnK Tryz.prog 9 [T.ro (lM x0),I x1] (fun r:Int => [I r]) (fun _ => []) (zOj x0 x1)):=⟨Tryz.call9,fun x0 x1 => iF Tryz.func9⟩
instance (x0:List (List (List Int))):LH (R:=Int) (zUj x0) [0] [] (fun s1 => [(1,I s1.1),(5,I s1.2)]) (.xs (.xe 0 [0] fun r5 => [(1,I r5)]) .xr):=⟨⟩
instance t_a5:FI Tryz.prog 33 (∀ (x0:List (List (List Int))) (x1:Int),FnK Tryz.prog 33 [T.ro (lC x0),I x1] (fun r:Int => [I r]) (fun _ => []) (zSL x0 x1)):=⟨Tryz.call33,fun x0 x1 => iF Tryz.func33⟩
instance t_ba:FI Tryz.prog 7 (∀ (x0:SPr) (x1:Int),FnK Tryz.prog 7 [qPr x0,I x1] (fun r:Int => [I r]) (fun _ => []) (zSM x0 x1)):=⟨Tryz.call7,fun x0 x1 => iF Tryz.func7⟩
instance t_bb:FI Tryz.prog 8 (∀ (x0:zC) (x1:Int),FnK Tryz.prog 8 [wB x0,I x1] (fun r:Int => [I r]) (fun _ => []) (zSN x0 x1)):=⟨Tryz.call8,fun x0 x1 => iF Tryz.func8⟩
instance (x0:List Int):LH (R:=(List Int)) (zQ9 x0) [0] [] (fun s1 => [(3,L 1 I s1.1),(4,I s1.2)]) (.xe 0 [0] fun r5 => [(3,L 1 I r5)]):=⟨⟩
instance t_au:FI Tryz.prog 36 (∀ (x0:List Int),FnK Tryz.prog 36 [T.ro (lV x0)] (fun r:(List Int) => [lV r]) (fun _ => []) (zOl x0)):=⟨Tryz.call36,fun x0 => iF Tryz.func36⟩
instance (x0:List (List Int)):LH (R:=(List (List Int))) (zVq x0) [0] [] (fun s1 => [(3,L 1 lV s1.1),(4,I s1.2)]) (.xe 0 [0] fun r6 => [(3,L 1 lV r6)]):=⟨⟩
instance t_p:FI Tryz.prog 13 (∀ (x0:List (List Int)),FnK Tryz.prog 13 [T.ro (lM x0)] (fun r:(List (List Int)) => [lM r]) (fun _ => []) (f_p x0)):=⟨Tryz.call13,fun x0 => iF Tryz.func13⟩
instance (x0:List (List (List Int))):LH (R:=(List (List (List Int)))) (zQA x0) [0] [] (fun s1 => [(3,L 1 lM s1.1),(4,I s1.2)]) (.xe 0 [0] fun r6 => [(3,L 1 lM r6)]):=⟨⟩
instance t_aL:FI Tryz.prog 37 (∀ (x0:List (List (List Int))),FnK Tryz.prog 37 [T.ro (lC x0)] (fun r:(List (List (List Int))) => [lC r]) (fun _ => []) (zQB x0)):=⟨Tryz.call37,fun x0 => iF Tryz.func37⟩
instance t_ah:FI Tryz.prog 11 (∀ (x0:SPr),FnK Tryz.prog 11 [qPr x0] (fun r:SPr => [xS r]) (fun _ => []) (zLM x0)):=⟨Tryz.call11,fun x0 => iF Tryz.func11⟩
instance t_ai:FI Tryz.prog 12 (∀ (x0:zC),FnK Tryz.prog 12 [wB x0] (fun r:zC => [yB r]) (fun _ => []) (zLN x0)):=⟨Tryz.call12,fun x0 => iF Tryz.func12⟩
instance t_bp:FI Tryz.prog 78 (∀ (x0:Int),FnK Tryz.prog 78 [I x0] (fun r:Bool => [B r]) (fun _ => []) (zSO x0)):=⟨Tryz.call78,fun x0 => iF Tryz.func78⟩
instance (x0:List Int):LH (R:=Int) (zKp x0) [0] [] (fun s1 => [(3,I s1.1),(4,I s1.2)]) (.xe 0 [0] fun r5 => [(3,I r5)]):=⟨⟩
instance t_ax:FI Tryz.prog 149 (∀ (x0:List Int),FnK Tryz.prog 149 [T.ro (lV x0)] (fun r:Int => [I r]) (fun _ => []) (zSP x0)):=⟨Tryz.call149,fun x0 => iF Tryz.func149⟩
instance t_bf:FI Tryz.prog 79 (∀ (x0:Int) (x1:Int) (x2:Int),FnK Tryz.prog 79 [I x0,I x1,I x2] (fun r:Bool => [B r]) (fun _ => []) (zQC x0 x1 x2)):=⟨Tryz.call79,fun x0 x1 x2 => iF Tryz.func79⟩
instance (x0:List Int) (x1:List Int) (x2:Int):LH (R:=Bool) (zNr x0 x1 x2) [0,1,2] [] (fun s1 => [(7,I s1)]) (.xs (.xe 0 [0,1,2] fun _ => []) .xr):=⟨⟩
instance t_aw:FI Tryz.prog 150 (∀ (x0:List Int) (x1:List Int) (x2:Int),FnK Tryz.prog 150 [T.ro (lV x0),T.ro (lV x1),I x2] (fun r:Bool => [B r]) (fun _ => []) (zQD x0 x1 x2)):=⟨Tryz.call150,fun x0 x1 x2 => iF Tryz.func150⟩
instance (x0:SPr):LH (R:=Bool) (zQE x0) [1,3] [] (fun s1 => [(4,I s1)]) (.xs (.xe 0 [] fun _ => []) .xr):=⟨⟩
instance (x0:SPr) (s7:Int):LH (R:=Bool) (zQF x0 s7) [1,3,5] [] (fun s8 => [(6,I s8)]) (.xs (.xe 4 [] fun _ => []) .xr):=⟨⟩
instance (x0:SPr):LH (R:=Bool) (zLO x0) [1,3] [] (fun s7 => [(5,I s7)]) (.xs (.xe 2 [1,3] fun _ => []) .xr):=⟨⟩
instance t_u:FI Tryz.prog 124 (∀ (x0:SPr),FnK Tryz.prog 124 [qPr x0] (fun r:Bool => [B r]) (fun _ => []) (f_u x0)):=⟨Tryz.call124,fun x0 => iF Tryz.func124⟩
instance t_t:FI Tryz.prog 111 (∀ (x0:List Int),FnK Tryz.prog 111 [T.ro (lV x0)] (fun r:(List Int) => [lV r]) (fun _ => []) (f_t x0)):=⟨Tryz.call111,fun x0 => iF Tryz.func111⟩
instance (g_a:SPr → Int → (List Int) → (List Int) → Option (List Int)) (x0:SPr) (x1:Int) (x2:List Int) (s5:(List Int) × Int):LH (R:=(List Int)) (zQG g_a x0 x1 x2 s5) [1,2,3,7,9] [] (fun s6 => [(8,L 1 I s6.1),(10,I s6.2)]) (.xe 2 [] fun r11 => [(8,L 1 I r11)]):=⟨⟩
instance (g_a:SPr → Int → (List Int) → (List Int) → Option (List Int)) (x0:SPr) (x1:Int) (x2:List Int):LH (R:=(List Int)) (zQH g_a x0 x1 x2) [1,2,3,7] [] (fun s5 => [(8,L 1 I s5.1),(9,I s5.2)]) (.xe 0 [1,2,3,7] fun r13 => [(8,L 1 I r13)]):=⟨⟩
theorem zXN {g_a:SPr → Int → (List Int) → (List Int) → Option (List Int)} [FI Tryz.prog 175 (∀ (x0:SPr) (x1:Int) (x2:List Int) (x3:List Int),FnK Tryz.prog 175 [qPr x0,I x1,T.ro (lV x2),T.ro (lV x3)] (fun r:(List Int) => [lV r]) (fun _ => []) (g_a x0 x1 x2 x3))]:∀ (x0:SPr) (x1:Int) (x2:List Int),FnK Tryz.prog 174 [qPr x0,I x1,T.ro (lV x2)] (fun r:(List Int) => [lV r]) (fun _ => []) (b_e g_a x0 x1 x2):=fun x0 x1 x2 => iF Tryz.func174
theorem zXO {g_a:SPr → Int → (List Int) → (List Int) → Option (List Int)} (H_a:∀ (x0:SPr) (x1:Int) (x2:List Int) (x3:List Int) r,g_a x0 x1 x2 x3 = some r → FnC Tryz.prog 175 [qPr x0,I x1,T.ro (lV x2),T.ro (lV x3)] [lV r] []) (x0:SPr) (x1:Int) (x2:List Int) (r:(List Int)) (h:b_e g_a x0 x1 x2 = some r):FnC Tryz.prog 174 [qPr x0,I x1,T.ro (lV x2)] [lV r] []:=by
 have:FI Tryz.prog 175 (∀ (x0:SPr) (x1:Int) (x2:List Int) (x3:List Int),FnK Tryz.prog 175 [qPr x0,I x1,T.ro (lV x2),T.ro (lV x3)] (fun r:(List Int) => [lV r]) (fun _ => []) (g_a x0 x1 x2 x3)):=⟨Tryz.call175,fun x0 x1 x2 x3 => FnK.mk (H_a x0 x1 x2 x3)⟩
 exact (zXN x0 x1 x2).go h
instance (g_e:SPr → Int → (List Int) → Option (List Int)) (x0:SPr) (x1:Int) (x3:List Int):LH (R:=(List Int)) (zSQ g_e x0 x1 x3) [1,2,3,4,11] [] (fun s1 => [(10,L 1 I s1.1),(12,I s1.2)]) (.xe 0 [] fun r9 => [(10,L 1 I r9)]):=⟨⟩
theorem zXP {g_e:SPr → Int → (List Int) → Option (List Int)} [FI Tryz.prog 174 (∀ (x0:SPr) (x1:Int) (x2:List Int),FnK Tryz.prog 174 [qPr x0,I x1,T.ro (lV x2)] (fun r:(List Int) => [lV r]) (fun _ => []) (g_e x0 x1 x2))] {g_a:SPr → Int → (List Int) → (List Int) → Option (List Int)} [FI Tryz.prog 175 (∀ (x0:SPr) (x1:Int) (x2:List Int) (x3:List Int),FnK Tryz.prog 175 [qPr x0,I x1,T.ro (lV x2),T.ro (lV x3)] (fun r:(List Int) => [lV r]) (fun _ => []) (g_a x0 x1 x2 x3))]:∀ (x0:SPr) (x1:Int) (x2:List Int) (x3:List Int),FnK Tryz.prog 175 [qPr x0,I x1,T.ro (lV x2),T.ro (lV x3)] (fun r:(List Int) => [lV r]) (fun _ => []) (b_a g_e g_a x0 x1 x2 x3):=fun x0 x1 x2 x3 => iF Tryz.func175
theorem zXQ {g_e:SPr → Int → (List Int) → Option (List Int)} (H_e:∀ (x0:SPr) (x1:Int) (x2:List Int) r,g_e x0 x1 x2 = some r → FnC Tryz.prog 174 [qPr x0,I x1,T.ro (lV x2)] [lV r] []) {g_a:SPr → Int → (List Int) → (List Int) → Option (List Int)} (H_a:∀ (x0:SPr) (x1:Int) (x2:List Int) (x3:List Int) r,g_a x0 x1 x2 x3 = some r → FnC Tryz.prog 175 [qPr x0,I x1,T.ro (lV x2),T.ro (lV x3)] [lV r] []) (x0:SPr) (x1:Int) (x2:List Int) (x3:List Int) (r:(List Int)) (h:b_a g_e g_a x0 x1 x2 x3 = some r):FnC Tryz.prog 175 [qPr x0,I x1,T.ro (lV x2),T.ro (lV x3)] [lV r] []:=by
 have:FI Tryz.prog 174 (∀ (x0:SPr) (x1:Int) (x2:List Int),FnK Tryz.prog 174 [qPr x0,I x1,T.ro (lV x2)] (fun r:(List Int) => [lV r]) (fun _ => []) (g_e x0 x1 x2)):=⟨Tryz.call174,fun x0 x1 x2 => FnK.mk (H_e x0 x1 x2)⟩
 have:FI Tryz.prog 175 (∀ (x0:SPr) (x1:Int) (x2:List Int) (x3:List Int),FnK Tryz.prog 175 [qPr x0,I x1,T.ro (lV x2),T.ro (lV x3)] (fun r:(List Int) => [lV r]) (fun _ => []) (g_a x0 x1 x2 x3)):=⟨Tryz.call175,fun x0 x1 x2 x3 => FnK.mk (H_a x0 x1 x2 x3)⟩
 exact (zXP x0 x1 x2 x3).go h
end
theorem zXk:∀ n,(∀ (x0:SPr) (x1:Int) (x2:List Int) r,zLP n x0 x1 x2 = some r → FnC Tryz.prog 174 [qPr x0,I x1,T.ro (lV x2)] [lV r] []) ∧ (∀ (x0:SPr) (x1:Int) (x2:List Int) (x3:List Int) r,zLQ n x0 x1 x2 x3 = some r → FnC Tryz.prog 175 [qPr x0,I x1,T.ro (lV x2),T.ro (lV x3)] [lV r] []):=by
  intro n
  induction n with
  | zero => exact ⟨(fun _ _ _ r h => by simp [zLP] at h),(fun _ _ _ _ r h => by simp [zLQ] at h)⟩
  | succ n ih => exact ⟨(fun x0 x1 x2 r h => zXO ih.2 x0 x1 x2 r (by simpa [zLP] using h)),(fun x0 x1 x2 x3 r h => zXQ ih.1 ih.2 x0 x1 x2 x3 r (by simpa [zLQ] using h))⟩
theorem u_e (x0:SPr) (x1:Int) (x2:List Int) (r:(List Int)) (h:f_e x0 x1 x2 = some r):FnC Tryz.prog 174 [qPr x0,I x1,T.ro (lV x2)] [lV r] []:=by
 obtain ⟨n,hn⟩:=qG h
 exact (zXk n).1 x0 x1 x2 r hn
theorem u_a (x0:SPr) (x1:Int) (x2:List Int) (x3:List Int) (r:(List Int)) (h:f_a x0 x1 x2 x3 = some r):FnC Tryz.prog 175 [qPr x0,I x1,T.ro (lV x2),T.ro (lV x3)] [lV r] []:=by
 obtain ⟨n,hn⟩:=qG h
 exact (zXk n).2 x0 x1 x2 x3 r hn
instance t_e:FI Tryz.prog 174 (∀ (x0:SPr) (x1:Int) (x2:List Int),FnK Tryz.prog 174 [qPr x0,I x1,T.ro (lV x2)] (fun r:(List Int) => [lV r]) (fun _ => []) (f_e x0 x1 x2)):=⟨Tryz.call174,fun x0 x1 x2 => FnK.mk (u_e x0 x1 x2)⟩
instance t_a:FI Tryz.prog 175 (∀ (x0:SPr) (x1:Int) (x2:List Int) (x3:List Int),FnK Tryz.prog 175 [qPr x0,I x1,T.ro (lV x2),T.ro (lV x3)] (fun r:(List Int) => [lV r]) (fun _ => []) (f_a x0 x1 x2 x3)):=⟨Tryz.call175,fun x0 x1 x2 x3 => FnK.mk (u_a x0 x1 x2 x3)⟩
section
attribute [local irreducible] RW CW DK OkL Ok wA wG vV vW XS.post rng tV uQ ixO zX xQ vR yZ zH GTo zL FnC FnK uR qH Kp Lk BsL BuL RpL Bk Lc
instance (x0:SPr) (x1:Int):LH (R:=(List Int)) (zNs x0 x1) [1,4] [] (fun s1 => [(3,I s1.1),(9,L 1 I s1.2.1),(10,T.ro (lV s1.2.2))]) (.xe 0 [1,4] fun r8 => [(9,L 1 I r8)]):=⟨⟩
instance t_aR:FI Tryz.prog 173 (∀ (x0:SPr) (x1:Int) (x2:List Int) (x3:Int),FnK Tryz.prog 173 [qPr x0,I x1,T.ro (lV x2),I x3] (fun r:(List Int) => [lV r]) (fun _ => []) (zSR x0 x1 x2 x3)):=⟨Tryz.call173,fun x0 x1 x2 x3 => iF Tryz.func173⟩
instance (x0:List Int) (x1:List Int):LH (R:=Bool) (zXn x0 x1) [0,1] [] (fun s1 => [(5,I s1)]) (.xs (.xe 0 [0,1] fun _ => []) .xr):=⟨⟩
instance t_Y:FI Tryz.prog 128 (∀ (x0:List Int) (x1:List Int),FnK Tryz.prog 128 [T.ro (lV x0),T.ro (lV x1)] (fun r:Bool => [B r]) (fun _ => []) (f_Y x0 x1)):=⟨Tryz.call128,fun x0 x1 => iF Tryz.func128⟩
instance t_bB:FI Tryz.prog 176 (∀ (x0:Int) (x1:Int),FnK Tryz.prog 176 [I x0,I x1] (fun r:(List Int) => [lV r]) (fun _ => []) (zVr x0 x1)):=⟨Tryz.call176,fun x0 x1 => iF Tryz.func176⟩
instance (x0:SPr) (x1:Int):LH (R:=yS) (zQI x0 x1) [1,2,4,5,6] [] (fun s1 => [(7,I s1)]) (.xs (.xe 0 [] fun _ => []) .xr):=⟨⟩
instance (x0:SPr) (x1:Int) (s7:Int):LH (R:=yS) (zQJ x0 x1 s7) [1,2,4,5,6,9] [] (fun s8 => [(10,I s8)]) (.xs (.xe 4 [] fun _ => []) .xr):=⟨⟩
instance (x0:SPr) (x1:Int):LH (R:=yS) (zQK x0 x1) [1,2,4,5,6] [] (fun s7 => [(9,I s7)]) (.xs (.xe 2 [] fun _ => []) .xr):=⟨⟩
instance (x0:SPr) (x1:Int):LH (R:=yS) (zQL x0 x1) [1,2,4,5,6,14,15,16] [16] (fun s16 => [(17,T.ro (lV s16.1)),(18,I s16.2)]) (.xe 8 [] fun r46 => [(17,T.ro (lV r46))]):=⟨⟩
instance (x0:SPr) (x1:Int) (v38:List Int):LH (R:=yS) (zQM x0 x1 v38) [1,2,4,5,6,14] [] (fun s15 => [(15,I s15)]) (.xs (.xe 6 [1,2,5,6,14] fun _ => []) .xr):=⟨⟩
instance t_l:FI Tryz.prog 164 (∀ (x0:SPr) (x1:Int),FnK Tryz.prog 164 [qPr x0,I x1] (fun r:yS => [zFm r]) (fun _ => []) (f_l x0 x1)):=⟨Tryz.call164,fun x0 x1 => iF Tryz.func164⟩
instance (x0:SPr):LH (R:=yS) (zKq x0) [1,2] [] (fun s1 => [(3,I s1)]) (.xs (.xe 0 [1] fun _ => []) .xr):=⟨⟩
instance t_aS:FI Tryz.prog 151 (∀ (x0:SPr),FnK Tryz.prog 151 [qPr x0] (fun r:yS => [zFm r]) (fun _ => []) (zVs x0)):=⟨Tryz.call151,fun x0 => iF Tryz.func151⟩
instance t_bC:FI Tryz.prog 125 (∀ (x0:SPr),FnK Tryz.prog 125 [qPr x0] (fun r:Bool => [B r]) (fun _ => []) (zVt x0)):=⟨Tryz.call125,fun x0 => iF Tryz.func125⟩
instance t_bq:FI Tryz.prog 76 (∀ (x0:SPr),FnK Tryz.prog 76 [qPr x0] (fun r:Bool => [B r]) (fun _ => []) (zSS x0)):=⟨Tryz.call76,fun x0 => iF Tryz.func76⟩
instance (x0:Int) (x2:List Int):LH (R:=Bool) (zNt x0 x2) [0,2] [] (fun s1 => [(7,I s1)]) (.xs (.xe 0 [0,2] fun _ => []) .xr):=⟨⟩
instance t_aC:FI Tryz.prog 80 (∀ (x0:Int) (x1:Int) (x2:List Int),FnK Tryz.prog 80 [I x0,I x1,T.ro (lV x2)] (fun r:Bool => [B r]) (fun _ => []) (zQN x0 x1 x2)):=⟨Tryz.call80,fun x0 x1 x2 => iF Tryz.func80⟩
instance (x0:Int) (x1:Int) (x2:List (List Int)):LH (R:=Bool) (zNu x0 x1 x2) [0,1,2] [] (fun s1 => [(7,I s1)]) (.xs (.xe 0 [0,1,2] fun _ => []) .xr):=⟨⟩
instance t_aT:FI Tryz.prog 126 (∀ (x0:Int) (x1:Int) (x2:List (List Int)),FnK Tryz.prog 126 [I x0,I x1,T.ro (lM x2)] (fun r:Bool => [B r]) (fun _ => []) (zST x0 x1 x2)):=⟨Tryz.call126,fun x0 x1 x2 => iF Tryz.func126⟩
instance (x0:Int):LH (R:=(List (List Int))) (zKr x0) [0] [] (fun s1 => [(3,L 1 lV s1.1),(4,I s1.2)]) (.xe 0 [0] fun r5 => [(3,L 1 lV r5)]):=⟨⟩
instance t_H:FI Tryz.prog 101 (∀ (x0:Int),FnK Tryz.prog 101 [I x0] (fun r:(List (List Int)) => [lM r]) (fun _ => []) (f_H x0)):=⟨Tryz.call101,fun x0 => iF Tryz.func101⟩
instance (x0:Int) (x1:List Int) (x2:List (List Int)) (s5:(List Int) × Int):LH (R:=(List Int)) (zQO x0 x1 x2 s5) [0,1,2,10] [] (fun s6 => [(9,L 1 I s6.1),(11,I s6.2)]) (.xe 2 [] fun r12 => [(9,L 1 I r12)]):=⟨⟩
instance (x0:Int) (x1:List Int) (x2:List (List Int)):LH (R:=(List Int)) (zQP x0 x1 x2) [0,1,2] [] (fun s5 => [(9,L 1 I s5.1),(10,I s5.2)]) (.xe 0 [0,1,2] fun r14 => [(9,L 1 I r14)]):=⟨⟩
instance t_F:FI Tryz.prog 82 (∀ (x0:Int) (x1:List Int) (x2:List (List Int)) (x3:Int),FnK Tryz.prog 82 [I x0,T.ro (lV x1),T.ro (lM x2),I x3] (fun r:(List Int) => [lV r]) (fun _ => []) (f_F x0 x1 x2 x3)):=⟨Tryz.call82,fun x0 x1 x2 x3 => iF Tryz.func82⟩
instance (x0:Int) (x1:List (List Int)) (x2:List (List Int)) (x3:Int):LH (R:=(List (List Int))) (zQQ x0 x1 x2 x3) [0,1,2,3] [] (fun s1 => [(9,L 1 lV s1.1),(10,I s1.2)]) (.xe 0 [0,1,2,3] fun r5 => [(9,L 1 lV r5)]):=⟨⟩
instance t_S:FI Tryz.prog 51 (∀ (x0:Int) (x1:List (List Int)) (x2:List (List Int)) (x3:Int),FnK Tryz.prog 51 [I x0,T.ro (lM x1),T.ro (lM x2),I x3] (fun r:(List (List Int)) => [lM r]) (fun _ => []) (f_S x0 x1 x2 x3)):=⟨Tryz.call51,fun x0 x1 x2 x3 => iF Tryz.func51⟩
instance (x0:zC) (x1:List Int) (s5:(List (List Int)) × Int):LH (R:=(List (List Int))) (zQR x0 x1 s5) [1,2,6] [] (fun s6 => [(5,L 1 lV s6.1),(7,I s6.2)]) (.xe 2 [] fun r6 => [(5,L 1 lV r6)]):=⟨⟩
instance (x0:zC) (x1:List Int):LH (R:=(List (List Int))) (zQS x0 x1) [1,2] [] (fun s5 => [(5,L 1 lV s5.1),(6,I s5.2)]) (.xe 0 [1,2] fun r8 => [(5,L 1 lV r8)]):=⟨⟩
instance t_I:FI Tryz.prog 127 (∀ (x0:zC) (x1:List Int),FnK Tryz.prog 127 [wB x0,T.ro (lV x1)] (fun r:(List (List Int)) => [lM r]) (fun _ => []) (f_I x0 x1)):=⟨Tryz.call127,fun x0 x1 => iF Tryz.func127⟩
instance (x0:List (List Int)) (x1:List (List Int)):LH (R:=Bool) (zQT x0 x1) [0,1] [] (fun s1 => [(5,I s1)]) (.xs (.xe 0 [0,1] fun _ => []) .xr):=⟨⟩
instance t_aY:FI Tryz.prog 81 (∀ (x0:List (List Int)) (x1:List (List Int)),FnK Tryz.prog 81 [T.ro (lM x0),T.ro (lM x1)] (fun r:Bool => [B r]) (fun _ => []) (zSU x0 x1)):=⟨Tryz.call81,fun x0 x1 => iF Tryz.func81⟩
instance (x0:SPr) (x1:zC):LH (R:=Bool) (zQU x0 x1) [2,3,5] [] (fun s1 => [(6,I s1)]) (.xs (.xe 0 [] fun _ => []) .xr):=⟨⟩
instance (x0:SPr) (x1:zC) (s11:Int):LH (R:=Bool) (zQV x0 x1 s11) [2,3,5,7] [] (fun s12 => [(8,L 1 lV s12.1),(9,I s12.2)]) (.xe 4 [] fun r12 => [(8,L 1 lV r12)]):=⟨⟩
instance (x0:SPr) (x1:zC) (s11:Int):LH (R:=Bool) (zQW x0 x1 s11) [2,3,5,7] [] (fun s14 => [(10,I s14)]) (.xs (.xe 6 [] fun _ => []) .xr):=⟨⟩
instance (x0:SPr) (x1:zC):LH (R:=Bool) (zQX x0 x1) [2,3,5] [] (fun s11 => [(7,I s11)]) (.xs (.xe 2 [2,3,5] fun _ => []) .xr):=⟨⟩
instance t_o:FI Tryz.prog 77 (∀ (x0:SPr) (x1:zC),FnK Tryz.prog 77 [qPr x0,wB x1] (fun r:Bool => [B r]) (fun _ => []) (f_o x0 x1)):=⟨Tryz.call77,fun x0 x1 => iF Tryz.func77⟩
instance t_br:FI Tryz.prog 48 (∀ (x0:SPr) (x1:zC),FnK Tryz.prog 48 [qPr x0,wB x1] (fun r:Bool => [B r]) (fun _ => []) (zSV x0 x1)):=⟨Tryz.call48,fun x0 x1 => iF Tryz.func48⟩
instance t_bs:FI Tryz.prog 106 (∀ (x0:SPr),FnK Tryz.prog 106 [qPr x0] (fun r:Int => [I r]) (fun _ => []) (zTm x0)):=⟨Tryz.call106,fun x0 => iF Tryz.func106⟩
instance (x0:zC) (x1:List (List Int)):LH (R:=Bool) (zK5 x0 x1) [1,2] [] (fun s1 => [(5,I s1)]) (.xs (.xe 0 [1,2] fun _ => []) .xr):=⟨⟩
instance t_aU:FI Tryz.prog 107 (∀ (x0:zC) (x1:List (List Int)),FnK Tryz.prog 107 [wB x0,T.ro (lM x1)] (fun r:Bool => [B r]) (fun _ => []) (zV3 x0 x1)):=⟨Tryz.call107,fun x0 x1 => iF Tryz.func107⟩
instance t_bo:FI Tryz.prog 62 (∀ (x0:SPr) (x1:zC) (x2:List (List Int)),FnK Tryz.prog 62 [qPr x0,wB x1,T.ro (lM x2)] (fun r:Bool => [B r]) (fun _ => []) (zRL x0 x1 x2)):=⟨Tryz.call62,fun x0 x1 x2 => iF Tryz.func62⟩
instance t_aJ:FI Tryz.prog 157 (∀ (x0:zP),FnK Tryz.prog 157 [yH x0] (fun r:zE => [yP r]) (fun _ => []) (zK9 x0)):=⟨Tryz.call157,fun x0 => iF Tryz.func157⟩
instance t_bD:FI Tryz.prog 171 (∀ (x0:Int) (x1:Int) (x2:Int),FnK Tryz.prog 171 [I x0,I x1,I x2] (fun r:Int => [I r]) (fun _ => []) (zV2 x0 x1 x2)):=⟨Tryz.call171,fun x0 x1 x2 => iF Tryz.func171⟩
instance t_X:FI Tryz.prog 159 (∀ (x0:zP) (x1:Int) (x2:Int),FnK Tryz.prog 159 [yH x0,I x1,I x2] (fun r:zE => [(fun x => T.agg [(Ro lV) x.x,(Ro lV) x.v]) r]) (fun _ => []) (f_X x0 x1 x2)):=⟨Tryz.call159,fun x0 x1 x2 => iF Tryz.func159⟩
instance t_bl:FI Tryz.prog 123 (∀ (x0:Int) (x1:Int),FnK Tryz.prog 123 [I x0,I x1] (fun r:Int => [I r]) (fun _ => []) (zRC x0 x1)):=⟨Tryz.call123,fun x0 x1 => iF Tryz.func123⟩
instance (x0:Int) (x2:Int) (x3:List Int):LH (R:=(List Int)) (zRD x0 x2 x3) [0,2,3] [] (fun s1 => [(9,L 1 I s1.1),(10,I s1.2)]) (.xe 0 [0,2,3] fun r9 => [(9,L 1 I r9)]):=⟨⟩
instance t_s:FI Tryz.prog 75 (∀ (x0:Int) (x1:List Int) (x2:Int) (x3:List Int),FnK Tryz.prog 75 [I x0,T.ro (lV x1),I x2,T.ro (lV x3)] (fun r:(List Int) => [lV r]) (fun _ => []) (f_s x0 x1 x2 x3)):=⟨Tryz.call75,fun x0 x1 x2 x3 => iF Tryz.func75⟩
instance (x0:zC) (x1:List Int) (x2:Int):LH (R:=(List Int)) (zHN x0 x1 x2) [1,2,3] [] (fun s1 => [(7,L 1 I s1.1),(8,I s1.2)]) (.xe 0 [1,2,3] fun r7 => [(7,L 1 I r7)]):=⟨⟩
instance t_as:FI Tryz.prog 172 (∀ (x0:zC) (x1:List Int) (x2:Int),FnK Tryz.prog 172 [wB x0,T.ro (lV x1),I x2] (fun r:(List Int) => [lV r]) (fun _ => []) (zTp x0 x1 x2)):=⟨Tryz.call172,fun x0 x1 x2 => iF Tryz.func172⟩
end
end Go.Wk

namespace Go.Wk
open Go Go.Proofs Go.Ab
set_option maxRecDepth 100000
set_option maxHeartbeats 4000000
section
attribute [local irreducible] RW CW DK OkL Ok wA wG vV vW XS.post rng tV uQ ixO zX xQ vR yZ zH GTo zL FnC FnK uR qH Kp Lk BsL BuL RpL Bk Lc
instance t_aI:FI Tryz.prog 162 (∀ (x0:zP) (x1:Int),FnK Tryz.prog 162 [yH x0,I x1] (fun r:zE => [(fun x => T.agg [(Ro lV) x.x,(Ro lV) x.v]) r]) (fun _ => []) (zLX x0 x1)):=⟨Tryz.call162,fun x0 x1 => iF Tryz.func162⟩
instance:GHs Tryz.f161.results:=⟨⟩
instance:GH Tryz.f161.results 0 53 0 (.trq 40 7 [0,0]):=⟨⟩
instance (g_d:zP → Int → zE → zE → Option zE) (x0:zP) (x1:Int) (x2:zE) (s5:(List Int) × (List Int) × Int):LH (R:=zE) (zTq g_d x0 x1 x2 s5) [1,3,5,6,8] [] (fun s6 => [(7,T.ptr (T.agg [L 1 I s6.1,L 1 I s6.2.1])),(9,I s6.2.2)]) (.xe 2 [] fun r8 => [(7,T.ptr (T.agg [L 1 I r8.1,L 1 I r8.2]))]):=⟨⟩
instance (g_d:zP → Int → zE → zE → Option zE) (x0:zP) (x1:Int) (x2:zE):LH (R:=zE) (zRM g_d x0 x1 x2) [1,3,5,6] [] (fun s5 => [(7,T.ptr (T.agg [L 1 I s5.1,L 1 I s5.2.1])),(8,I s5.2.2)]) (.xe 0 [] fun r10 => [(7,T.ptr (T.agg [L 1 I r10.1,L 1 I r10.2]))]):=⟨⟩
theorem zXR {g_d:zP → Int → zE → zE → Option zE} [FI Tryz.prog 158 (∀ (x0:zP) (x1:Int) (x2:zE) (x3:zE),FnK Tryz.prog 158 [yH x0,I x1,yC x2,yC x3] (fun r:zE => [yP r]) (fun _ => []) (g_d x0 x1 x2 x3))]:∀ (x0:zP) (x1:Int) (x2:zE),FnK Tryz.prog 161 [yH x0,I x1,yC x2] (fun r:zE => [yP r]) (fun _ => []) (b_f g_d x0 x1 x2):=fun x0 x1 x2 => iF Tryz.func161
theorem zXS {g_d:zP → Int → zE → zE → Option zE} (H_d:∀ (x0:zP) (x1:Int) (x2:zE) (x3:zE) r,g_d x0 x1 x2 x3 = some r → FnC Tryz.prog 158 [yH x0,I x1,yC x2,yC x3] [yP r] []) (x0:zP) (x1:Int) (x2:zE) (r:zE) (h:b_f g_d x0 x1 x2 = some r):FnC Tryz.prog 161 [yH x0,I x1,yC x2] [yP r] []:=by
 have:FI Tryz.prog 158 (∀ (x0:zP) (x1:Int) (x2:zE) (x3:zE),FnK Tryz.prog 158 [yH x0,I x1,yC x2,yC x3] (fun r:zE => [yP r]) (fun _ => []) (g_d x0 x1 x2 x3)):=⟨Tryz.call158,fun x0 x1 x2 x3 => FnK.mk (H_d x0 x1 x2 x3)⟩
 exact (zXR x0 x1 x2).go h
end
theorem zXT {g_f:zP → Int → zE → Option zE} (H_f:∀ (x0:zP) (x1:Int) (x2:zE) r,g_f x0 x1 x2 = some r → FnC Tryz.prog 161 [yH x0,I x1,yC x2] [yP r] []) {g_d:zP → Int → zE → zE → Option zE} (H_d:∀ (x0:zP) (x1:Int) (x2:zE) (x3:zE) r,g_d x0 x1 x2 x3 = some r → FnC Tryz.prog 158 [yH x0,I x1,yC x2,yC x3] [yP r] []) (x0:zP) (x1:Int) (x2:zE) (x3:zE) (r:zE) (h:b_d g_f g_d x0 x1 x2 x3 = some r):FnC Tryz.prog 158 [yH x0,I x1,yC x2,yC x3] [yP r] []:=by
 refine fB Tryz.func158 (fun St W w0 v => ?_)
 refine sR (zFN ?_)
 refine zFN ?_
 refine zFN ?_
 refine tD ?_
 refine rN (CW.seq (sR (zR ?_)))
 refine zAU ?_
 refine oP (zDt fld_34_0 rfl rfl rfl rfl rfl rfl) ?_
 refine zBv ?_
 refine zAq ?_
 refine zTP ?_
 refine rN (cn h (fun hc h => ?_) (fun hc h => ?_))
 refine CW.seq ?_
 obtain ⟨m1,hm1,h⟩:=bd h
 obtain ⟨r2,hr2,h⟩:=bd h
 refine CW.dk ?_
 refine zA8 [(4,_)] ?_
 refine dG [(21,_),(4,_)] [([(22,some (T.addr 4 [0,0,0]))],[(22,0)])] ⟨rfl,rfl,trivial⟩ (fun E h => zQ.opE (zDt fld_34_0 h.1 h.2.1 rfl rfl rfl rfl) rfl) ?_
 refine sW [(22,_),(4,_)] ?_
 refine zLc [(23,_)] ?_
 refine dG [(24,_)] [([(25,some (L 1 I (List.replicate m1 (0:Int))))],[(25,0)])] ⟨rfl,trivial⟩ (fun E h => zQ.opE (zAR (f:=I) (z:=0) elt_22 (rfl) hm1 h.1 h.1 rfl) rfl) ?_
 refine zA8 [(4,_)] ?_
 refine dG [(26,_),(4,_)] [([(27,some (T.addr 4 [0,1,0]))],[(27,0)])] ⟨rfl,rfl,trivial⟩ (fun E h => zQ.opE (zDt fld_36_0 h.1 h.2.1 rfl rfl rfl rfl) rfl) ?_
 refine sW [(27,_),(4,_)] ?_
 refine zA8 [(6,_)] ?_
 refine sW [(29,_),(6,_)] ?_
 refine zA8 [(7,_)] ?_
 refine sW [(31,_),(7,_)] ?_
 refine dC [(28,_),(30,_),(32,_)] Tryz.call75 (FnK.go (t_s.h _ _ _ _) hr2) ?_
 refine dG [(25,_),(33,_)] [([(34,some (T.agg [L 1 I (List.replicate m1 (0:Int)),L 1 I r2])),(25,some (T.same 34 [0])),(33,some (T.same 34 [1]))],[(34,0),(25,1),(33,1)])] ⟨rfl,rfl,trivial⟩ (fun E h => zQ.opE (zAc bld_163 [(0,.tmp 25),(1,.tmp 33)] [(0,.slot 25 (L 1 I (List.replicate m1 (0:Int)))),(1,.slot 33 (L 1 I r2))] [.slot 25 (L 1 I (List.replicate m1 (0:Int))),.slot 33 (L 1 I r2)] (pkS h.1 (zG (zK (Enc.clean (f:=I)))) rfl (pkS h.2.1 (zG (zK (Enc.clean (f:=I)))) rfl pkN)) (bqC (.slot _ _) (bqC (.slot _ _) bqN)) rfl) rfl) ?_
 refine dG [(8,_),(34,_)] [([(8,some (T.ptr (T.agg [L 1 I (List.replicate m1 (0:Int)),L 1 I r2]))),(34,some (T.agg [T.same 8 [0,0],T.same 8 [1,0]]))],[(8,1),(34,1)])] ⟨rfl,rfl,trivial⟩ (fun E h => zQ.opE (vZ vN rfl (wT h.1 rfl) h.1 rfl rfl h.2.1 (zG (xU ⟨(zK (Enc.clean (f:=I))),(zK (Enc.clean (f:=I))),trivial⟩)) rfl) rfl) ?_
 refine dNA xR ?_
 refine nA (CW.ret (rA ?_))
 obtain rfl:=sI h
 exact ⟨_,zL.refl,⟨.inl rfl,[(8,[0],T.agg [L 1 I (List.replicate m1 (0:Int)),L 1 I r2])],⟨⟨rfl,rfl,rfl,(var_163.h _ rfl rfl).h⟩,trivial⟩,rfl,(by simp),(by simp),trivial⟩⟩
 refine CW.skip (nA (CW.seq ?_))
 obtain ⟨r3,hr3,h⟩:=bd h
 obtain ⟨r4,hr4,h⟩:=bd h
 refine CW.dk ?_
 refine zA8 [(6,_)] ?_
 refine sW [(35,_),(6,_)] ?_
 refine dC [(36,_)] Tryz.call111 (FnK.go (t_t.h _) hr3) ?_
 refine zA8 [(6,_)] ?_
 refine sW [(38,_),(6,_)] ?_
 refine dG [(37,_),(39,_)] [([(40,some (T.agg [L 1 I r3,T.ro (lV x2.v)])),(37,some (T.same 40 [0]))],[(40,0),(37,1)])] ⟨rfl,rfl,trivial⟩ (fun E h => zQ.opE (zAc bld_163 [(0,.tmp 37),(1,.tmp 39)] [(0,.slot 37 (L 1 I r3)),(1,.slot 39 (T.ro (lV x2.v)))] [.slot 37 (L 1 I r3),.slot 39 (T.ro (lV x2.v))] (pkS h.1 (zG (zK (Enc.clean (f:=I)))) rfl (pkS h.2.1 (zG trivial) rfl pkN)) (bqC (.slot _ _) (bqC (.slot _ _) bqN)) rfl) rfl) ?_
 refine zA8 [(7,_)] ?_
 refine sW [(41,_),(7,_)] ?_
 refine dC [(42,_)] Tryz.call111 (FnK.go (t_t.h _) hr4) ?_
 refine zA8 [(7,_)] ?_
 refine sW [(44,_),(7,_)] ?_
 refine dG [(43,_),(45,_)] [([(46,some (T.agg [L 1 I r4,T.ro (lV x3.v)])),(43,some (T.same 46 [0]))],[(46,0),(43,1)])] ⟨rfl,rfl,trivial⟩ (fun E h => zQ.opE (zAc bld_163 [(0,.tmp 43),(1,.tmp 45)] [(0,.slot 43 (L 1 I r4)),(1,.slot 45 (T.ro (lV x3.v)))] [.slot 43 (L 1 I r4),.slot 45 (T.ro (lV x3.v))] (pkS h.1 (zG (zK (Enc.clean (f:=I)))) rfl (pkS h.2.1 (zG trivial) rfl pkN)) (bqC (.slot _ _) (bqC (.slot _ _) bqN)) rfl) rfl) ?_
 refine zCf [] ?_
 refine zCf [] ?_
 refine dG [(9,_),(40,_)] [([(9,some (T.ptr (T.agg [L 1 I r3,T.ro (lV x2.v)]))),(40,some (T.agg [T.same 9 [0,0],T.ro (lV x2.v)]))],[(9,1),(40,1)])] ⟨rfl,rfl,trivial⟩ (fun E h => zQ.opE (vZ vN rfl (wT h.1 rfl) h.1 rfl rfl h.2.1 (zG (xU ⟨(zK (Enc.clean (f:=I))),trivial,trivial⟩)) rfl) rfl) ?_
 refine dG [(10,_),(46,_)] [([(10,some (T.ptr (T.agg [L 1 I r4,T.ro (lV x3.v)]))),(46,some (T.agg [T.same 10 [0,0],T.ro (lV x3.v)]))],[(10,1),(46,1)])] ⟨rfl,rfl,trivial⟩ (fun E h => zQ.opE (vZ vN rfl (wT h.1 rfl) h.1 rfl rfl h.2.1 (zG (xU ⟨(zK (Enc.clean (f:=I))),trivial,trivial⟩)) rfl) rfl) ?_
 refine dNA xR ?_
 refine nA (CW.seq (CW.to [(1,I x1),(4,T.ptr (yH x0)),(6,T.ptr (yC x2)),(7,T.ptr (yC x3)),(8,T.ptr (T.agg [L 1 I [],L 1 I []])),(9,T.ptr (T.agg [L 1 I r3,T.ro (lV x2.v)])),(10,T.ptr (T.agg [L 1 I r4,T.ro (lV x3.v)]))] ⟨rfl,rfl,rfl,rfl,rfl,rfl,rfl,trivial⟩ ?_))
 refine CW.region (zAU ?_)
 refine zBv ?_
 refine zR ?_
 obtain ⟨v5,hv5,h⟩:=bd h
 refine zLa ?_
 refine oP (zIo zDM rfl rfl rfl (yW (yX rfl (zM hv5 rfl))) (zA6 (zIm rfl (kL hv5 rfl))) rfl rfl) ?_
 refine rN (sR (zAU ?_))
 refine zBv ?_
 refine zR ?_
 obtain ⟨v6,hv6,h⟩:=bd h
 refine zLa ?_
 refine oP (zIo zDM rfl rfl rfl (yW (yX rfl (zM hv6 rfl))) (zA6 (zIm rfl (kL hv6 rfl))) rfl rfl) ?_
 refine rN (CW.seq (sR (yJ ?_)))
 refine rN (CW.block (CW.ghost (zL.frzI 1 9 _ (t':=T.agg [T.ro (lV (r3.set x1.toNat 0)),T.ro (lV x2.v)]) rfl (fzA (fzC (fzO inferInstance) (fzC rfl fzN)))) ?_))
 obtain ⟨r10,hr10,h⟩:=bd h
 refine CW.lp (s:=(r3.set x1.toNat 0,x2.v,0)) (zOz g_f x0 x1 x3) (fun s1:(List Int) × (List Int) × Int => xK [(1,I x1),(4,T.ptr (yH x0)),(6,T.ptr (yC x2)),(7,T.ptr (yC x3)),(8,T.ptr (T.agg [L 1 I [],L 1 I []])),(9,T.ptr (T.agg [T.ro (lV s1.1),T.ro (lV s1.2.1)])),(10,T.ptr (T.agg [L 1 I (r4.set x1.toNat 0),T.ro (lV x3.v)])),(11,I s1.2.2)]) (fun (r10:((List Int) × (List Int))) e E => e = .exit 0 ∧ zL ⟨St,W,w0,Tryz.f158.ntmps⟩ E (xK [(1,I x1),(4,T.ptr (yH x0)),(6,T.ptr (yC x2)),(7,T.ptr (yC x3)),(8,T.ptr (T.agg [L 1 I [],L 1 I []])),(9,T.ptr (T.agg [T.ro (lV r10.1),T.ro (lV r10.2)])),(10,T.ptr (T.agg [L 1 I (r4.set x1.toNat 0),T.ro (lV x3.v)]))])) (.has ⟨rfl,rfl,rfl,rfl,rfl,rfl,rfl,rfl,trivial⟩) (fun s1 x h => ?_) hr10 (fun e E hq => ?_)
 refine CW.seq (sR (zR ?_))
 refine zAU ?_
 refine zBv ?_
 refine zR ?_
 obtain ⟨v7,hv7,h⟩:=bd h
 refine zC8 ?_
 refine qY ?_
 refine vH ?_
 refine rN (cn h (fun hc h => ?_) (fun hc h => ?_))
 refine CW.skip (nA (CW.seq (CW.block (CW.region (tJ ?_)))))
 refine zR ?_
 refine tJ ?_
 obtain ⟨r8,hr8,h⟩:=bd h
 refine cA Tryz.call161 (H_f _ _ _ _ hr8) ?_
 refine oP (vZ vN rfl (wT rfl rfl) rfl rfl rfl rfl (zG (xU ⟨(zK (Enc.clean (f:=I))),(zK (Enc.clean (f:=I))),trivial⟩)) rfl) ?_
 refine RW.nil ?_
 refine nB (nA (CW.region (zR ?_)))
 obtain ⟨v9,hv9,h⟩:=bd h
 refine uA ?_
 refine yJ ?_
 refine RW.ghost (zL.frzI 1 9 _ (t':=yC r8) rfl (fzA (fzC (fzO inferInstance) (fzC (fzO inferInstance) fzN)))) ?_
 refine RW.nil ?_
 exact eN h
 refine CW.exit (xA ?_)
 exact eX h
 obtain ⟨rfl,hg⟩:=hq
 refine xB ?_
 refine nA (CW.ghost hg ?_)
 refine sR (tJ ?_)
 refine zR ?_
 obtain ⟨v11,hv11,h⟩:=bd h
 refine oP (zA4 hv11 rfl rfl rfl) ?_
 refine tJ ?_
 refine tJ ?_
 obtain ⟨r12,hr12,h⟩:=bd h
 refine oP (yV (xs:=[.tmp 68,.tmp 70,.tmp 71,.tmp 72]) Tryz.call158 (H_d _ _ _ _ _ hr12) ⟨(agC _ rfl rfl rfl),⟨(agC _ rfl rfl rfl),⟨(agC _ rfl rfl rfl),⟨(agC _ rfl (kM (wS (tT rfl rfl inferInstance) (wS rfl kN))) rfl),trivial⟩⟩⟩⟩ (wN (f:=yP) inferInstance wL) rfl) ?_
 refine tD ?_
 refine oP (vZ vN rfl (wT rfl rfl) rfl rfl rfl rfl (zG (xU ⟨(zK (Enc.clean (f:=I))),(zK (Enc.clean (f:=I))),trivial⟩)) rfl) ?_
 refine rN (CW.seq ?_)
 obtain ⟨v13,hv13,h⟩:=bd h
 obtain ⟨v14,hv14,h⟩:=bd h
 obtain ⟨v15,hv15,h⟩:=bd h
 refine CW.dk ?_
 refine zA8 [(6,_)] ?_
 refine sW [(74,_),(6,_)] ?_
 refine yN [(1,_)] ?_
 refine zMG [(75,_),(76,_)] ?_
 refine zBo [(77,_)] ?_
 refine zA8 [(7,_)] ?_
 refine sW [(79,_),(7,_)] ?_
 refine yN [(1,_)] ?_
 refine zMG [(80,_),(81,_)] ?_
 refine zBo [(82,_)] ?_
 refine zMH [(78,_),(83,_)] ?_
 refine zDx [(84,_)] ?_
 refine dNA xR ?_
 refine nA (CW.seq (sR (zR ?_)))
 refine zAU ?_
 refine oP (zDt fld_34_0 rfl rfl rfl rfl rfl rfl) ?_
 refine zBv ?_
 refine zR ?_
 obtain ⟨v16,hv16,h⟩:=bd h
 refine oP (zM1 (f:=I) row_22 hv16 (wT rfl rfl) rfl rfl) ?_
 refine qY ?_
 refine zTP ?_
 refine rN (cn h (fun hc h => ?_) (fun hc h => ?_))
 refine CW.seq (CW.to [(1,I x1),(4,T.ptr (yH x0)),(8,T.ptr (T.agg [L 1 I [],L 1 I []])),(12,T.ptr (yP r12)),(13,I v15)] ⟨rfl,rfl,rfl,rfl,rfl,trivial⟩ ?_)
 refine CW.region (zR ?_)
 refine zAU ?_
 refine oP (zDt fld_34_0 rfl rfl rfl rfl rfl rfl) ?_
 refine zBv ?_
 refine zR ?_
 obtain ⟨v17,hv17,h⟩:=bd h
 refine oP (zM1 (f:=I) row_22 hv17 (wT rfl rfl) rfl rfl) ?_
 refine qY ?_
 obtain ⟨v18,hv18,h⟩:=bd h
 refine zP3 ?_
 refine yJ ?_
 refine rN ?_
 obtain ⟨v19,hv19,h⟩:=bd h
 obtain ⟨r20,hr20,h⟩:=bd h
 obtain ⟨r21,hr21,h⟩:=bd h
 refine CW.dk ?_
 refine wK [(4,_)] ?_
 refine yN [(1,_)] ?_
 refine dG [(102,_)] [([(103,some (I v19))],[(103,0)])] ⟨rfl,trivial⟩ (fun E h => zQ.opE (zA4 hv19 h.1 rfl rfl) rfl) ?_
 refine wK [(4,_)] ?_
 refine yN [(1,_)] ?_
 refine dG [(104,_),(105,_)] [([(106,some (yC r20))],[(106,0)])] ⟨rfl,rfl,trivial⟩ (fun E h => zQ.opE (sQ (xs:=[.tmp 104,.tmp 105]) Tryz.call162 (FnK.go (t_aI.h _ _) hr20) (afC h.1 rfl (afC h.2.1 rfl afN)) rfl ⟨(xU ⟨trivial,trivial,trivial⟩),trivial⟩ rfl rfl) rfl) ?_
 refine wK [(12,_)] ?_
 refine dG [(101,_),(103,_),(106,_),(107,_),(12,_)] [([(108,some (yP r21))],[(108,0)])] ⟨rfl,rfl,rfl,rfl,rfl,trivial⟩ (fun E h => zQ.opE (yV (xs:=[.tmp 101,.tmp 103,.tmp 106,.tmp 107]) Tryz.call158 (H_d _ _ _ _ _ hr21) ⟨(agC _ h.1 rfl rfl),⟨(agC _ h.2.1 rfl rfl),⟨(agC _ h.2.2.1 rfl rfl),⟨(agC _ h.2.2.2.1 (kM (wS (tT h.2.2.2.2.1 rfl inferInstance) (wS (tT h.2.2.2.2.1 rfl inferInstance) kN))) rfl),trivial⟩⟩⟩⟩ (wN (f:=yP) inferInstance wL) rfl) rfl) ?_
 refine dG [(12,_),(108,_)] [([(12,some (T.ptr (yP r21))),(108,some (T.agg [T.same 12 [0,0],T.same 12 [1,0]]))],[(12,1),(108,1)])] ⟨rfl,rfl,trivial⟩ (fun E h => zQ.opE (vZ vN rfl (wT h.1 rfl) h.1 rfl rfl h.2.1 (zG (xU ⟨(zK (Enc.clean (f:=I))),(zK (Enc.clean (f:=I))),trivial⟩)) rfl) rfl) ?_
 refine dNA xR ?_
 refine nA (sR (zAU ?_))
 refine zBv ?_
 obtain ⟨r22,hr22,h⟩:=bd h
 refine cA Tryz.call111 (FnK.go (t_t.h _) hr22) ?_
 refine yJ ?_
 refine RW.ghost (zL.tr 14 111 _ rfl rfl (zG (zK (Enc.clean (f:=I)))) rfl) ?_
 refine rN (sR (zR ?_))
 refine zR ?_
 refine zR ?_
 obtain ⟨v23,hv23,h⟩:=bd h
 refine zLa ?_
 refine oP (zCR zDM rfl rfl rfl (zM hv23 rfl) (kL hv23 rfl) rfl (zG (Enc.clean (f:=I) _)) rfl) ?_
 refine rN (CW.seq (CW.to [(8,T.ptr (T.agg [L 1 I [],L 1 I []])),(12,T.ptr (yP r21)),(14,L 1 I (r22.set x1.toNat v18))] ⟨rfl,rfl,rfl,trivial⟩ ?_))
 refine CW.region (zR ?_)
 refine zAU ?_
 refine zBv ?_
 refine RW.ghost (zL.tr 116 14 _ rfl rfl (zG (zK (Enc.clean (f:=I)))) rfl) ?_
 refine RW.ghost (zL.trq 118 12 [1,0] rfl rfl rfl (zG (zK (Enc.clean (f:=I)))) rfl) ?_
 refine oP (zAc bld_163 [(0,.tmp 116),(1,.tmp 118)] [(0,.slot 116 (L 1 I (r22.set x1.toNat v18))),(1,.slot 118 (L 1 I r21.v))] [.slot 116 (L 1 I (r22.set x1.toNat v18)),.slot 118 (L 1 I r21.v)] (pkS rfl (zG (zK (Enc.clean (f:=I)))) rfl (pkS rfl (zG (zK (Enc.clean (f:=I)))) rfl pkN)) (bqC (.slot _ _) (bqC (.slot _ _) bqN)) rfl) ?_
 refine oP (vZ vN rfl (wT rfl rfl) rfl rfl rfl rfl (zG (xU ⟨(zK (Enc.clean (f:=I))),(zK (Enc.clean (f:=I))),trivial⟩)) rfl) ?_
 refine rN (CW.ret ?_)
 obtain rfl:=sI h
 exact ⟨_,zL.refl,⟨.inl rfl,[(8,[0],T.agg [L 1 I (r22.set x1.toNat v18),L 1 I r21.v])],⟨⟨rfl,rfl,rfl,(var_163.h _ rfl rfl).h⟩,trivial⟩,rfl,(by simp),(by simp),trivial⟩⟩
 refine CW.skip (nA (CW.seq (CW.to [(1,I x1),(8,T.ptr (T.agg [L 1 I [],L 1 I []])),(12,T.ptr (yP r12)),(13,I v15)] ⟨rfl,rfl,rfl,rfl,trivial⟩ ?_)))
 refine CW.region (zAU ?_)
 refine zBv ?_
 obtain ⟨r24,hr24,h⟩:=bd h
 refine cA Tryz.call111 (FnK.go (t_t.h _) hr24) ?_
 refine yJ ?_
 refine RW.ghost (zL.tr 14 111 _ rfl rfl (zG (zK (Enc.clean (f:=I)))) rfl) ?_
 refine rN (sR (zR ?_))
 refine zR ?_
 refine zR ?_
 obtain ⟨v25,hv25,h⟩:=bd h
 refine zLa ?_
 refine oP (zCR zDM rfl rfl rfl (zM hv25 rfl) (kL hv25 rfl) rfl (zG (Enc.clean (f:=I) _)) rfl) ?_
 refine rN (sR (zR ?_))
 refine zAU ?_
 refine zBv ?_
 refine RW.ghost (zL.tr 116 14 _ rfl rfl (zG (zK (Enc.clean (f:=I)))) rfl) ?_
 refine RW.ghost (zL.trq 118 12 [1,0] rfl rfl rfl (zG (zK (Enc.clean (f:=I)))) rfl) ?_
 refine oP (zAc bld_163 [(0,.tmp 116),(1,.tmp 118)] [(0,.slot 116 (L 1 I (r24.set x1.toNat v15))),(1,.slot 118 (L 1 I r12.v))] [.slot 116 (L 1 I (r24.set x1.toNat v15)),.slot 118 (L 1 I r12.v)] (pkS rfl (zG (zK (Enc.clean (f:=I)))) rfl (pkS rfl (zG (zK (Enc.clean (f:=I)))) rfl pkN)) (bqC (.slot _ _) (bqC (.slot _ _) bqN)) rfl) ?_
 refine oP (vZ vN rfl (wT rfl rfl) rfl rfl rfl rfl (zG (xU ⟨(zK (Enc.clean (f:=I))),(zK (Enc.clean (f:=I))),trivial⟩)) rfl) ?_
 refine rN (CW.ret ?_)
 obtain rfl:=sI h
 exact ⟨_,zL.refl,⟨.inl rfl,[(8,[0],T.agg [L 1 I (r24.set x1.toNat v15),L 1 I r12.v])],⟨⟨rfl,rfl,rfl,(var_163.h _ rfl rfl).h⟩,trivial⟩,rfl,(by simp),(by simp),trivial⟩⟩
theorem zXl:∀ n,(∀ (x0:zP) (x1:Int) (x2:zE) r,zLY n x0 x1 x2 = some r → FnC Tryz.prog 161 [yH x0,I x1,yC x2] [yP r] []) ∧ (∀ (x0:zP) (x1:Int) (x2:zE) (x3:zE) r,zLZ n x0 x1 x2 x3 = some r → FnC Tryz.prog 158 [yH x0,I x1,yC x2,yC x3] [yP r] []):=by
  intro n
  induction n with
  | zero => exact ⟨(fun _ _ _ r h => by simp [zLY] at h),(fun _ _ _ _ r h => by simp [zLZ] at h)⟩
  | succ n ih => exact ⟨(fun x0 x1 x2 r h => zXS ih.2 x0 x1 x2 r (by simpa [zLY] using h)),(fun x0 x1 x2 x3 r h => zXT ih.1 ih.2 x0 x1 x2 x3 r (by simpa [zLZ] using h))⟩
theorem u_f (x0:zP) (x1:Int) (x2:zE) (r:zE) (h:f_f x0 x1 x2 = some r):FnC Tryz.prog 161 [yH x0,I x1,yC x2] [yP r] []:=by
 obtain ⟨n,hn⟩:=qG h
 exact (zXl n).1 x0 x1 x2 r hn
theorem u_d (x0:zP) (x1:Int) (x2:zE) (x3:zE) (r:zE) (h:f_d x0 x1 x2 x3 = some r):FnC Tryz.prog 158 [yH x0,I x1,yC x2,yC x3] [yP r] []:=by
 obtain ⟨n,hn⟩:=qG h
 exact (zXl n).2 x0 x1 x2 x3 r hn
instance t_f:FI Tryz.prog 161 (∀ (x0:zP) (x1:Int) (x2:zE),FnK Tryz.prog 161 [yH x0,I x1,yC x2] (fun r:zE => [yP r]) (fun _ => []) (f_f x0 x1 x2)):=⟨Tryz.call161,fun x0 x1 x2 => FnK.mk (u_f x0 x1 x2)⟩
instance t_d:FI Tryz.prog 158 (∀ (x0:zP) (x1:Int) (x2:zE) (x3:zE),FnK Tryz.prog 158 [yH x0,I x1,yC x2,yC x3] (fun r:zE => [yP r]) (fun _ => []) (f_d x0 x1 x2 x3)):=⟨Tryz.call158,fun x0 x1 x2 x3 => FnK.mk (u_d x0 x1 x2 x3)⟩
section
attribute [local irreducible] RW CW DK OkL Ok wA wG vV vW XS.post rng tV uQ ixO zX xQ vR yZ zH GTo zL FnC FnK uR qH Kp Lk BsL BuL RpL Bk Lc
instance t_ad:FI Tryz.prog 160 (∀ (x0:zP) (x1:zE) (x2:zE),FnK Tryz.prog 160 [yH x0,yC x1,yC x2] (fun r:(List Int) => [lV r]) (fun _ => []) (zKA x0 x1 x2)):=⟨Tryz.call160,fun x0 x1 x2 => iF Tryz.func160⟩
end
theorem u_h (x0:zP) (x1:Int) (r:(List (List Int))) (h:f_h x0 x1 = some r):FnC Tryz.prog 146 [yH x0,I x1] [lM r] []:=by
 refine fB Tryz.func146 (fun St W w0 v => ?_)
 refine sR (zFN ?_)
 refine oP (zC4 1 rfl) ?_
 refine rN (sR (zAU ?_))
 refine oP (zDt fld_34_0 rfl rfl rfl rfl rfl rfl) ?_
 refine zBv ?_
 refine zAq ?_
 refine yJ ?_
 refine rN (sR (oP (zPq elt_23 rfl) ?_))
 refine yJ ?_
 refine RW.ghost (zL.tr 6 23 _ rfl rfl (zG trivial) rfl) ?_
 refine rN (CW.seq (sR (zR ?_)))
 obtain ⟨v1,hv1,h⟩:=bd h
 refine uA ?_
 refine yJ ?_
 refine rN (CW.block ?_)
 obtain ⟨r27,hr27,h⟩:=bd h
 refine CW.lp (s:=([],v1)) (zRN x0 x1) (fun s9:(List (List Int)) × Int => xK [(1,I x1),(2,T.ptr (yH x0)),(5,I (x0.p.zA.length:Int)),(6,L 1 lV s9.1),(7,I s9.2)]) (fun (r27:(List (List Int))) e E => e = .exit 0 ∧ zL ⟨St,W,w0,Tryz.f146.ntmps⟩ E (xK [(1,I x1),(2,T.ptr (yH x0)),(5,I (x0.p.zA.length:Int)),(6,L 1 lV r27)])) (.has ⟨rfl,rfl,rfl,rfl,rfl,trivial⟩) (fun s9 x h => ?_) hr27 (fun e E hq => ?_)
 refine CW.seq (sR (zR ?_))
 refine zR ?_
 refine vH ?_
 refine rN (cn h (fun hc h => ?_) (fun hc h => ?_))
 refine CW.skip (nA (CW.seq (CW.block (sR (tJ ?_)))))
 obtain ⟨r2,hr2,h⟩:=bd h
 refine cA Tryz.call157 (FnK.go (t_aJ.h _) hr2) ?_
 refine tD ?_
 refine oP (vZ vN rfl (wT rfl rfl) rfl rfl rfl rfl (zG (xU ⟨(zK (Enc.clean (f:=I))),(zK (Enc.clean (f:=I))),trivial⟩)) rfl) ?_
 refine rN (CW.seq (sR (yJ ?_)))
 refine rN (CW.block ?_)
 obtain ⟨r8,hr8,h⟩:=bd h
 refine CW.lp (s:=(r2.x,r2.v,0)) (zO0 x0 x1 s9) (fun s10:(List Int) × (List Int) × Int => xK [(1,I x1),(2,T.ptr (yH x0)),(5,I (x0.p.zA.length:Int)),(6,L 1 lV s9.1),(7,I s9.2),(8,T.ptr (T.agg [L 1 I s10.1,L 1 I s10.2.1])),(9,I s10.2.2)]) (fun (r8:((List Int) × (List Int))) e E => e = .exit 2 ∧ zL ⟨St,W,w0,Tryz.f146.ntmps⟩ E (xK [(1,I x1),(2,T.ptr (yH x0)),(5,I (x0.p.zA.length:Int)),(6,L 1 lV s9.1),(7,I s9.2),(8,T.ptr (T.agg [L 1 I r8.1,L 1 I r8.2]))])) (.has ⟨rfl,rfl,rfl,rfl,rfl,rfl,rfl,trivial⟩) (fun s10 x h => ?_) hr8 (fun e E hq => ?_)
 refine CW.seq (sR (zR ?_))
 refine zAU ?_
 refine oP (zDt fld_34_0 rfl rfl rfl rfl rfl rfl) ?_
 refine zBv ?_
 refine zR ?_
 obtain ⟨v3,hv3,h⟩:=bd h
 refine zC8 ?_
 refine qY ?_
 refine vH ?_
 refine rN (cn h (fun hc h => ?_) (fun hc h => ?_))
 refine CW.skip (nA (CW.seq (CW.block ?_)))
 obtain ⟨v4,hv4,h⟩:=bd h
 obtain ⟨r5,hr5,h⟩:=bd h
 obtain ⟨r6,hr6,h⟩:=bd h
 refine CW.dk ?_
 refine wK [(2,_)] ?_
 refine yN [(1,_)] ?_
 refine zMH [(44,_)] ?_
 refine wK [(8,_)] ?_
 refine wK [(2,_)] ?_
 refine yN [(1,_)] ?_
 refine yN [(7,_)] ?_
 refine dG [(47,_),(48,_),(49,_)] [([(50,some (yC r5))],[(50,0)])] ⟨rfl,rfl,rfl,trivial⟩ (fun E h => zQ.opE (sQ (xs:=[.tmp 47,.tmp 48,.tmp 49]) Tryz.call159 (FnK.go (t_X.h _ _ _) hr5) (afC h.1 rfl (afC h.2.1 rfl (afC h.2.2.1 rfl afN))) rfl ⟨(xU ⟨trivial,trivial,trivial⟩),trivial⟩ rfl rfl) rfl) ?_
 refine dG [(43,_),(45,_),(46,_),(8,_),(50,_)] [([(51,some (yP r6))],[(51,0)])] ⟨rfl,rfl,rfl,rfl,rfl,trivial⟩ (fun E h => zQ.opE (yV (xs:=[.tmp 43,.tmp 45,.tmp 46,.tmp 50]) Tryz.call158 (FnK.go (t_d.h _ _ _ _) hr6) ⟨(agC _ h.1 rfl rfl),⟨(agC _ h.2.1 rfl rfl),⟨(agC _ h.2.2.1 (kM (wS (tT h.2.2.2.1 rfl inferInstance) (wS (tT h.2.2.2.1 rfl inferInstance) kN))) rfl),⟨(agC _ h.2.2.2.2.1 rfl rfl),trivial⟩⟩⟩⟩ (wN (f:=yP) inferInstance wL) rfl) rfl) ?_
 refine dG [(8,_),(51,_)] [([(8,some (T.ptr (yP r6))),(51,some (T.agg [T.same 8 [0,0],T.same 8 [1,0]]))],[(8,1),(51,1)])] ⟨rfl,rfl,trivial⟩ (fun E h => zQ.opE (vZ vN rfl (wT h.1 rfl) h.1 rfl rfl h.2.1 (zG (xU ⟨(zK (Enc.clean (f:=I))),(zK (Enc.clean (f:=I))),trivial⟩)) rfl) rfl) ?_
 refine dNA xR ?_
 refine nB (nA (CW.region (zR ?_)))
 obtain ⟨v7,hv7,h⟩:=bd h
 refine uA ?_
 refine yJ ?_
 refine RW.nil ?_
 exact eN h
 refine CW.exit (xA ?_)
 exact eX h
 obtain ⟨rfl,hg⟩:=hq
 refine xB ?_
 refine nA (CW.ghost hg ?_)
 refine CW.seq ?_
 obtain ⟨r9,hr9,h⟩:=bd h
 obtain ⟨r10,hr10,h⟩:=bd h
 obtain ⟨r11,hr11,h⟩:=bd h
 obtain ⟨v12,hv12,h⟩:=bd h
 refine CW.dk ?_
 refine yN [(6,_)] ?_
 refine wK [(2,_)] ?_
 refine wK [(8,_)] ?_
 refine wK [(2,_)] ?_
 refine yN [(1,_)] ?_
 refine wK [(2,_)] ?_
 refine yN [(7,_)] ?_
 refine dG [(57,_),(58,_)] [([(59,some (yC r9))],[(59,0)])] ⟨rfl,rfl,trivial⟩ (fun E h => zQ.opE (sQ (xs:=[.tmp 57,.tmp 58]) Tryz.call162 (FnK.go (t_aI.h _ _) hr9) (afC h.1 rfl (afC h.2.1 rfl afN)) rfl ⟨(xU ⟨trivial,trivial,trivial⟩),trivial⟩ rfl rfl) rfl) ?_
 refine dC [(55,_),(56,_),(59,_)] Tryz.call161 (FnK.go (t_f.h _ _ _) hr10) ?_
 refine dG [(53,_),(54,_),(8,_),(60,_)] [([(61,some (L 1 I r11))],[(61,0)])] ⟨rfl,rfl,rfl,rfl,trivial⟩ (fun E h => zQ.opE (yV (xs:=[.tmp 53,.tmp 54,.tmp 60]) Tryz.call160 (FnK.go (t_ad.h _ _ _) hr11) ⟨(agC _ h.1 rfl rfl),⟨(agC _ h.2.1 (kM (wS (tT h.2.2.1 rfl inferInstance) (wS (tT h.2.2.1 rfl inferInstance) kN))) rfl),⟨(agC _ h.2.2.2.1 (kM (wS (tO inferInstance) (wS (tO inferInstance) kN))) rfl),trivial⟩⟩⟩ (wN (f:=lV) inferInstance wL) rfl) rfl) ?_
 refine dG [(61,_)] [([(62,some (L 1 lV [r11])),(61,some (T.same 62 [0]))],[(62,0),(61,1)])] ⟨rfl,trivial⟩ (fun E h => zQ.opE (zEh elt_23 [.tmp 61] [.slot 61 (L 1 I r11)] [r11] lV ⟨.slot _ _,trivial⟩ (pkS h.1 (zG (zK (Enc.clean (f:=I)))) rfl pkN) rfl rfl) rfl) ?_
 refine dG [(52,T.same 6 []),(6,L 1 lV s9.1),(62,L 1 lV [r11])] [([(52,some (L 1 lV s9.1)),(6,some (T.same 52 []))],[(52,1),(6,1)]),([(63,some (L 1 lV v12)),(52,some T.any),(62,some T.any)],[(63,0),(52,1),(62,1)])] ⟨rfl,rfl,rfl,trivial⟩ (fun E h => zQ.gh (zL.tr 52 6 _ h.1 h.2.1 (zG (zK (Enc.clean (f:=lV)))) rfl) <| zQ.opE (zAP (f:=lV) elt_23 hv12 rfl (zC5 h.2.2.1) rfl) rfl) ?_
 refine zDx [(63,_)] ?_
 refine dNA xR ?_
 refine nA (CW.ghost (zL.tr 6 63 _ rfl rfl (zG (zK (Enc.clean (f:=lV)))) rfl) ?_)
 refine sR (zR ?_)
 obtain ⟨v13,hv13,h⟩:=bd h
 refine uA ?_
 refine yJ ?_
 refine rN (CW.block ?_)
 obtain ⟨r25,hr25,h⟩:=bd h
 refine CW.lp (s:=(v12,v13)) (zO1 x0 x1 s9) (fun s12:(List (List Int)) × Int => xK [(1,I x1),(2,T.ptr (yH x0)),(5,I (x0.p.zA.length:Int)),(6,L 1 lV s12.1),(7,I s9.2),(10,I s12.2)]) (fun (r25:(List (List Int))) e E => e = .exit 4 ∧ zL ⟨St,W,w0,Tryz.f146.ntmps⟩ E (xK [(1,I x1),(2,T.ptr (yH x0)),(5,I (x0.p.zA.length:Int)),(6,L 1 lV r25),(7,I s9.2)])) (.has ⟨rfl,rfl,rfl,rfl,rfl,rfl,trivial⟩) (fun s12 x h => ?_) hr25 (fun e E hq => ?_)
 refine CW.seq (sR (zR ?_))
 refine zR ?_
 refine vH ?_
 refine rN (cn h (fun hc h => ?_) (fun hc h => ?_))
 refine CW.skip (nA (CW.seq (CW.block (CW.seq ?_))))
 obtain ⟨r14,hr14,h⟩:=bd h
 obtain ⟨r15,hr15,h⟩:=bd h
 refine CW.dk ?_
 refine wK [(2,_)] ?_
 refine yN [(1,_)] ?_
 refine yN [(7,_)] ?_
 refine dG [(71,_),(72,_),(73,_)] [([(74,some (yC r14))],[(74,0)])] ⟨rfl,rfl,rfl,trivial⟩ (fun E h => zQ.opE (sQ (xs:=[.tmp 71,.tmp 72,.tmp 73]) Tryz.call159 (FnK.go (t_X.h _ _ _) hr14) (afC h.1 rfl (afC h.2.1 rfl (afC h.2.2.1 rfl afN))) rfl ⟨(xU ⟨trivial,trivial,trivial⟩),trivial⟩ rfl rfl) rfl) ?_
 refine wK [(2,_)] ?_
 refine yN [(1,_)] ?_
 refine yN [(10,_)] ?_
 refine dG [(75,_),(76,_),(77,_)] [([(78,some (yC r15))],[(78,0)])] ⟨rfl,rfl,rfl,trivial⟩ (fun E h => zQ.opE (sQ (xs:=[.tmp 75,.tmp 76,.tmp 77]) Tryz.call159 (FnK.go (t_X.h _ _ _) hr15) (afC h.1 rfl (afC h.2.1 rfl (afC h.2.2.1 rfl afN))) rfl ⟨(xU ⟨trivial,trivial,trivial⟩),trivial⟩ rfl rfl) rfl) ?_
 refine zCf [] ?_
 refine zCf [] ?_
 refine dG [(11,_),(74,_)] [([(11,some (T.ptr (yC r14))),(74,some (yC r14))],[(11,1),(74,1)])] ⟨rfl,rfl,trivial⟩ (fun E h => zQ.opE (vZ vN rfl (wT h.1 rfl) h.1 rfl rfl h.2.1 (zG (xU ⟨trivial,trivial,trivial⟩)) rfl) rfl) ?_
 refine dG [(12,_),(78,_)] [([(12,some (T.ptr (yC r15))),(78,some (yC r15))],[(12,1),(78,1)])] ⟨rfl,rfl,trivial⟩ (fun E h => zQ.opE (vZ vN rfl (wT h.1 rfl) h.1 rfl rfl h.2.1 (zG (xU ⟨trivial,trivial,trivial⟩)) rfl) rfl) ?_
 refine dNA xR ?_
 refine nA (CW.seq ?_)
 obtain ⟨r16,hr16,h⟩:=bd h
 obtain ⟨r17,hr17,h⟩:=bd h
 refine CW.dk ?_
 refine wK [(2,_)] ?_
 refine yN [(1,_)] ?_
 refine wK [(2,_)] ?_
 refine yN [(7,_)] ?_
 refine yN [(10,_)] ?_
 refine dG [(81,_),(82,_),(83,_)] [([(84,some (yC r16))],[(84,0)])] ⟨rfl,rfl,rfl,trivial⟩ (fun E h => zQ.opE (sQ (xs:=[.tmp 81,.tmp 82,.tmp 83]) Tryz.call159 (FnK.go (t_X.h _ _ _) hr16) (afC h.1 rfl (afC h.2.1 rfl (afC h.2.2.1 rfl afN))) rfl ⟨(xU ⟨trivial,trivial,trivial⟩),trivial⟩ rfl rfl) rfl) ?_
 refine dC [(79,_),(80,_),(84,_)] Tryz.call161 (FnK.go (t_f.h _ _ _) hr17) ?_
 refine zCf [] ?_
 refine dG [(13,_),(85,_)] [([(13,some (T.ptr (yP r17))),(85,some (T.agg [T.same 13 [0,0],T.same 13 [1,0]]))],[(13,1),(85,1)])] ⟨rfl,rfl,trivial⟩ (fun E h => zQ.opE (vZ vN rfl (wT h.1 rfl) h.1 rfl rfl h.2.1 (zG (xU ⟨(zK (Enc.clean (f:=I))),(zK (Enc.clean (f:=I))),trivial⟩)) rfl) rfl) ?_
 refine dNA xR ?_
 refine nA (CW.to [(1,I x1),(2,T.ptr (yH x0)),(5,I (x0.p.zA.length:Int)),(6,L 1 lV s12.1),(7,I s9.2),(10,I s12.2),(11,T.ptr (yC r14)),(12,T.ptr (yC r15)),(13,T.ptr (yP r17))] ⟨rfl,rfl,rfl,rfl,rfl,rfl,rfl,rfl,rfl,trivial⟩ ?_)
 obtain ⟨v18,hv18,h⟩:=bd h
 obtain ⟨r19,hr19,h⟩:=bd h
 obtain ⟨v20,hv20,h⟩:=bd h
 obtain ⟨r21,hr21,h⟩:=bd h
 obtain ⟨r22,hr22,h⟩:=bd h
 obtain ⟨v23,hv23,h⟩:=bd h
 refine CW.dk ?_
 refine yN [(6,_)] ?_
 refine wK [(2,_)] ?_
 refine wK [(2,_)] ?_
 refine yN [(1,_)] ?_
 refine dG [(89,_)] [([(90,some (I v18))],[(90,0)])] ⟨rfl,trivial⟩ (fun E h => zQ.opE (zA4 hv18 h.1 rfl rfl) rfl) ?_
 refine wK [(12,_)] ?_
 refine wK [(11,_)] ?_
 refine dC [(88,_),(90,_),(91,_),(92,_)] Tryz.call158 (FnK.go (t_d.h _ _ _ _) hr19) ?_
 refine wK [(2,_)] ?_
 refine yN [(1,_)] ?_
 refine dG [(95,_)] [([(96,some (I v20))],[(96,0)])] ⟨rfl,trivial⟩ (fun E h => zQ.opE (zA4 hv20 h.1 rfl rfl) rfl) ?_
 refine wK [(11,_)] ?_
 refine wK [(13,_)] ?_
 refine dG [(94,_),(96,_),(97,_),(98,_),(13,_)] [([(99,some (yP r21))],[(99,0)])] ⟨rfl,rfl,rfl,rfl,rfl,trivial⟩ (fun E h => zQ.opE (yV (xs:=[.tmp 94,.tmp 96,.tmp 97,.tmp 98]) Tryz.call158 (FnK.go (t_d.h _ _ _ _) hr21) ⟨(agC _ h.1 rfl rfl),⟨(agC _ h.2.1 rfl rfl),⟨(agC _ h.2.2.1 rfl rfl),⟨(agC _ h.2.2.2.1 (kM (wS (tT h.2.2.2.2.1 rfl inferInstance) (wS (tT h.2.2.2.2.1 rfl inferInstance) kN))) rfl),trivial⟩⟩⟩⟩ (wN (f:=yP) inferInstance wL) rfl) rfl) ?_
 refine dG [(87,_),(93,_),(99,_)] [([(100,some (L 1 I r22))],[(100,0)])] ⟨rfl,rfl,rfl,trivial⟩ (fun E h => zQ.opE (yV (xs:=[.tmp 87,.tmp 93,.tmp 99]) Tryz.call160 (FnK.go (t_ad.h _ _ _) hr22) ⟨(agC _ h.1 rfl rfl),⟨(agC _ h.2.1 (kM (wS (tO inferInstance) (wS (tO inferInstance) kN))) rfl),⟨(agC _ h.2.2.1 (kM (wS (tO inferInstance) (wS (tO inferInstance) kN))) rfl),trivial⟩⟩⟩ (wN (f:=lV) inferInstance wL) rfl) rfl) ?_
 refine dG [(100,_)] [([(101,some (L 1 lV [r22])),(100,some (T.same 101 [0]))],[(101,0),(100,1)])] ⟨rfl,trivial⟩ (fun E h => zQ.opE (zEh elt_23 [.tmp 100] [.slot 100 (L 1 I r22)] [r22] lV ⟨.slot _ _,trivial⟩ (pkS h.1 (zG (zK (Enc.clean (f:=I)))) rfl pkN) rfl rfl) rfl) ?_
 refine dG [(86,T.same 6 []),(6,L 1 lV s12.1),(101,L 1 lV [r22])] [([(86,some (L 1 lV s12.1)),(6,some (T.same 86 []))],[(86,1),(6,1)]),([(102,some (L 1 lV v23)),(86,some T.any),(101,some T.any)],[(102,0),(86,1),(101,1)])] ⟨rfl,rfl,rfl,trivial⟩ (fun E h => zQ.gh (zL.tr 86 6 _ h.1 h.2.1 (zG (zK (Enc.clean (f:=lV)))) rfl) <| zQ.opE (zAP (f:=lV) elt_23 hv23 rfl (zC5 h.2.2.1) rfl) rfl) ?_
 refine zDx [(102,_)] ?_
 refine dNA xR ?_
 refine nB (nA (CW.region (zR ?_)))
 obtain ⟨v24,hv24,h⟩:=bd h
 refine uA ?_
 refine yJ ?_
 refine RW.ghost (zL.tr 6 102 _ rfl rfl (zG (zK (Enc.clean (f:=lV)))) rfl) ?_
 refine RW.nil ?_
 exact eN h
 refine CW.exit (xA ?_)
 exact eX h
 obtain ⟨rfl,hg⟩:=hq
 refine xB ?_
 refine nB (nA (CW.ghost hg ?_))
 refine CW.region (zR ?_)
 obtain ⟨v26,hv26,h⟩:=bd h
 refine uA ?_
 refine yJ ?_
 refine RW.nil ?_
 exact eN h
 refine CW.exit (xA ?_)
 exact eX h
 obtain ⟨rfl,hg⟩:=hq
 refine xB ?_
 refine nA (CW.ghost hg ?_)
 refine sR (tJ ?_)
 refine zR ?_
 obtain ⟨r28,hr28,h⟩:=bd h
 refine oP (sQ (xs:=[.tmp 103,.tmp 104]) Tryz.call162 (FnK.go (t_aI.h _ _) hr28) (afC rfl rfl (afC rfl rfl afN)) rfl ⟨(xU ⟨trivial,trivial,trivial⟩),trivial⟩ rfl rfl) ?_
 refine tD ?_
 refine oP (vZ vN rfl (wT rfl rfl) rfl rfl rfl rfl (zG (xU ⟨trivial,trivial,trivial⟩)) rfl) ?_
 refine rN (CW.seq ?_)
 obtain ⟨r29,hr29,h⟩:=bd h
 obtain ⟨r30,hr30,h⟩:=bd h
 obtain ⟨v31,hv31,h⟩:=bd h
 refine CW.dk ?_
 refine yN [(6,_)] ?_
 refine wK [(2,_)] ?_
 refine wK [(2,_)] ?_
 refine yN [(1,_)] ?_
 refine wK [(14,_)] ?_
 refine dC [(108,_),(109,_),(110,_)] Tryz.call161 (FnK.go (t_f.h _ _ _) hr29) ?_
 refine wK [(14,_)] ?_
 refine dG [(107,_),(111,_),(112,_)] [([(113,some (L 1 I r30))],[(113,0)])] ⟨rfl,rfl,rfl,trivial⟩ (fun E h => zQ.opE (yV (xs:=[.tmp 107,.tmp 111,.tmp 112]) Tryz.call160 (FnK.go (t_ad.h _ _ _) hr30) ⟨(agC _ h.1 rfl rfl),⟨(agC _ h.2.1 (kM (wS (tO inferInstance) (wS (tO inferInstance) kN))) rfl),⟨(agC _ h.2.2.1 rfl rfl),trivial⟩⟩⟩ (wN (f:=lV) inferInstance wL) rfl) rfl) ?_
 refine dG [(113,_)] [([(114,some (L 1 lV [r30])),(113,some (T.same 114 [0]))],[(114,0),(113,1)])] ⟨rfl,trivial⟩ (fun E h => zQ.opE (zEh elt_23 [.tmp 113] [.slot 113 (L 1 I r30)] [r30] lV ⟨.slot _ _,trivial⟩ (pkS h.1 (zG (zK (Enc.clean (f:=I)))) rfl pkN) rfl rfl) rfl) ?_
 refine dG [(106,T.same 6 []),(6,L 1 lV r27),(114,L 1 lV [r30])] [([(106,some (L 1 lV r27)),(6,some (T.same 106 []))],[(106,1),(6,1)]),([(115,some (L 1 lV v31)),(106,some T.any),(114,some T.any)],[(115,0),(106,1),(114,1)])] ⟨rfl,rfl,rfl,trivial⟩ (fun E h => zQ.gh (zL.tr 106 6 _ h.1 h.2.1 (zG (zK (Enc.clean (f:=lV)))) rfl) <| zQ.opE (zAP (f:=lV) elt_23 hv31 rfl (zC5 h.2.2.1) rfl) rfl) ?_
 refine zDx [(115,_)] ?_
 refine dNA xR ?_
 refine nA (CW.ghost (zL.tr 6 115 _ rfl rfl (zG (zK (Enc.clean (f:=lV)))) rfl) ?_)
 refine CW.seq (sR (zR ?_))
 obtain ⟨v32,hv32,h⟩:=bd h
 refine uA ?_
 refine yJ ?_
 refine rN (CW.block ?_)
 obtain ⟨r46,hr46,h⟩:=bd h
 refine CW.lp (s:=(v31,v32)) (zO2 x0 x1 r28) (fun s19:(List (List Int)) × Int => xK [(1,I x1),(2,T.ptr (yH x0)),(5,I (x0.p.zA.length:Int)),(6,L 1 lV s19.1),(14,T.ptr (yC r28)),(15,I s19.2)]) (fun (r46:(List (List Int))) e E => e = .exit 6 ∧ zL ⟨St,W,w0,Tryz.f146.ntmps⟩ E (xK [(6,L 1 lV r46)])) (.has ⟨rfl,rfl,rfl,rfl,rfl,rfl,trivial⟩) (fun s19 x h => ?_) hr46 (fun e E hq => ?_)
 refine CW.seq (sR (zR ?_))
 refine zR ?_
 refine vH ?_
 refine rN (cn h (fun hc h => ?_) (fun hc h => ?_))
 refine CW.skip (nA (CW.seq (CW.block (sR (tJ ?_)))))
 obtain ⟨r33,hr33,h⟩:=bd h
 refine cA Tryz.call157 (FnK.go (t_aJ.h _) hr33) ?_
 refine tD ?_
 refine oP (vZ vN rfl (wT rfl rfl) rfl rfl rfl rfl (zG (xU ⟨(zK (Enc.clean (f:=I))),(zK (Enc.clean (f:=I))),trivial⟩)) rfl) ?_
 refine rN (sR (zAU ?_))
 refine zBv ?_
 refine zR ?_
 obtain ⟨v34,hv34,h⟩:=bd h
 refine zLa ?_
 refine oP (zIo zDM rfl rfl rfl (yW (yX rfl (zM hv34 rfl))) (zA6 (zIm rfl (kL hv34 rfl))) rfl rfl) ?_
 refine rN (sR (tJ ?_))
 refine tD ?_
 refine RW.ghost (zL.frzI 9 16 _ (t':=T.agg [T.ro (lV (r33.x.set s19.2.toNat 1)),T.ro (lV r33.v)]) rfl (fzA (fzC (fzO inferInstance) (fzC (fzO inferInstance) fzN)))) ?_
 refine RW.ghost (zL.resf 129 [0] 16 [0,0] _ _ rfl rfl rfl rfl rfl rfl) ?_
 refine RW.ghost (zL.resf 129 [1] 16 [1,0] _ _ rfl rfl rfl rfl rfl rfl) ?_
 refine oP (vZ vN rfl (wT rfl rfl) rfl rfl rfl rfl (zG (xU ⟨trivial,trivial,trivial⟩)) rfl) ?_
 refine rN (CW.seq (sR (yJ ?_)))
 refine rN (CW.block ?_)
 obtain ⟨r38,hr38,h⟩:=bd h
 refine CW.lp (s:=(r33.x.set s19.2.toNat 1,r33.v,0)) (zRO x0 x1) (fun s20:(List Int) × (List Int) × Int => xK [(1,I x1),(2,T.ptr (yH x0)),(5,I (x0.p.zA.length:Int)),(6,L 1 lV s19.1),(14,T.ptr (yC r28)),(15,I s19.2),(16,T.ptr (T.agg [T.ro (lV (r33.x.set s19.2.toNat 1)),T.ro (lV r33.v)])),(17,T.ptr (T.agg [T.ro (lV s20.1),T.ro (lV s20.2.1)])),(18,I s20.2.2)]) (fun (r38:((List Int) × (List Int))) e E => e = .exit 8 ∧ zL ⟨St,W,w0,Tryz.f146.ntmps⟩ E (xK [(1,I x1),(2,T.ptr (yH x0)),(5,I (x0.p.zA.length:Int)),(6,L 1 lV s19.1),(14,T.ptr (yC r28)),(15,I s19.2),(16,T.ptr (T.agg [T.ro (lV (r33.x.set s19.2.toNat 1)),T.ro (lV r33.v)])),(17,T.ptr (T.agg [T.ro (lV r38.1),T.ro (lV r38.2)]))])) (.has ⟨rfl,rfl,rfl,rfl,rfl,rfl,rfl,rfl,rfl,trivial⟩) (fun s20 x h => ?_) hr38 (fun e E hq => ?_)
 refine CW.seq (sR (zR ?_))
 refine zAU ?_
 refine oP (zDt fld_34_0 rfl rfl rfl rfl rfl rfl) ?_
 refine zBv ?_
 refine zR ?_
 obtain ⟨v35,hv35,h⟩:=bd h
 refine zC8 ?_
 refine qY ?_
 refine vH ?_
 refine rN (cn h (fun hc h => ?_) (fun hc h => ?_))
 refine CW.skip (nA (CW.seq (CW.block (CW.region (tJ ?_)))))
 refine zR ?_
 refine tJ ?_
 obtain ⟨r36,hr36,h⟩:=bd h
 refine cA Tryz.call161 (FnK.go (t_f.h _ _ _) hr36) ?_
 refine oP (vZ vN rfl (wT rfl rfl) rfl rfl rfl rfl (zG (xU ⟨(zK (Enc.clean (f:=I))),(zK (Enc.clean (f:=I))),trivial⟩)) rfl) ?_
 refine RW.nil ?_
 refine nB (nA (CW.region (zR ?_)))
 obtain ⟨v37,hv37,h⟩:=bd h
 refine uA ?_
 refine yJ ?_
 refine RW.ghost (zL.frzI 1 17 _ (t':=yC r36) rfl (fzA (fzC (fzO inferInstance) (fzC (fzO inferInstance) fzN)))) ?_
 refine RW.nil ?_
 exact eN h
 refine CW.exit (xA ?_)
 exact eX h
 obtain ⟨rfl,hg⟩:=hq
 refine xB ?_
 refine nA (CW.ghost hg ?_)
 obtain ⟨v39,hv39,h⟩:=bd h
 obtain ⟨r40,hr40,h⟩:=bd h
 obtain ⟨v41,hv41,h⟩:=bd h
 obtain ⟨r42,hr42,h⟩:=bd h
 obtain ⟨r43,hr43,h⟩:=bd h
 obtain ⟨v44,hv44,h⟩:=bd h
 refine CW.dk ?_
 refine yN [(6,_)] ?_
 refine wK [(2,_)] ?_
 refine wK [(2,_)] ?_
 refine yN [(1,_)] ?_
 refine dG [(147,_)] [([(148,some (I v39))],[(148,0)])] ⟨rfl,trivial⟩ (fun E h => zQ.opE (zA4 hv39 h.1 rfl rfl) rfl) ?_
 refine wK [(14,_)] ?_
 refine wK [(17,_)] ?_
 refine dC [(146,_),(148,_),(149,_),(150,_)] Tryz.call158 (FnK.go (t_d.h _ _ _ _) hr40) ?_
 refine wK [(2,_)] ?_
 refine yN [(1,_)] ?_
 refine dG [(153,_)] [([(154,some (I v41))],[(154,0)])] ⟨rfl,trivial⟩ (fun E h => zQ.opE (zA4 hv41 h.1 rfl rfl) rfl) ?_
 refine wK [(16,_)] ?_
 refine wK [(14,_)] ?_
 refine dC [(152,_),(154,_),(155,_),(156,_)] Tryz.call158 (FnK.go (t_d.h _ _ _ _) hr42) ?_
 refine dG [(145,_),(151,_),(157,_)] [([(158,some (L 1 I r43))],[(158,0)])] ⟨rfl,rfl,rfl,trivial⟩ (fun E h => zQ.opE (yV (xs:=[.tmp 145,.tmp 151,.tmp 157]) Tryz.call160 (FnK.go (t_ad.h _ _ _) hr43) ⟨(agC _ h.1 rfl rfl),⟨(agC _ h.2.1 (kM (wS (tO inferInstance) (wS (tO inferInstance) kN))) rfl),⟨(agC _ h.2.2.1 (kM (wS (tO inferInstance) (wS (tO inferInstance) kN))) rfl),trivial⟩⟩⟩ (wN (f:=lV) inferInstance wL) rfl) rfl) ?_
 refine dG [(158,_)] [([(159,some (L 1 lV [r43])),(158,some (T.same 159 [0]))],[(159,0),(158,1)])] ⟨rfl,trivial⟩ (fun E h => zQ.opE (zEh elt_23 [.tmp 158] [.slot 158 (L 1 I r43)] [r43] lV ⟨.slot _ _,trivial⟩ (pkS h.1 (zG (zK (Enc.clean (f:=I)))) rfl pkN) rfl rfl) rfl) ?_
 refine dG [(144,T.same 6 []),(6,L 1 lV s19.1),(159,L 1 lV [r43])] [([(144,some (L 1 lV s19.1)),(6,some (T.same 144 []))],[(144,1),(6,1)]),([(160,some (L 1 lV v44)),(144,some T.any),(159,some T.any)],[(160,0),(144,1),(159,1)])] ⟨rfl,rfl,rfl,trivial⟩ (fun E h => zQ.gh (zL.tr 144 6 _ h.1 h.2.1 (zG (zK (Enc.clean (f:=lV)))) rfl) <| zQ.opE (zAP (f:=lV) elt_23 hv44 rfl (zC5 h.2.2.1) rfl) rfl) ?_
 refine zDx [(160,_)] ?_
 refine dNA xR ?_
 refine nB (nA (CW.region (zR ?_)))
 obtain ⟨v45,hv45,h⟩:=bd h
 refine uA ?_
 refine yJ ?_
 refine RW.ghost (zL.tr 6 160 _ rfl rfl (zG (zK (Enc.clean (f:=lV)))) rfl) ?_
 refine RW.nil ?_
 exact eN h
 refine CW.exit (xA ?_)
 exact eX h
 obtain ⟨rfl,hg⟩:=hq
 refine xB ?_
 refine nA (CW.ghost hg ?_)
 refine sR (zR ?_)
 refine yJ ?_
 refine RW.ghost (zL.tr 4 6 _ rfl rfl (zG (zK (Enc.clean (f:=lV)))) rfl) ?_
 refine rN (CW.ret ?_)
 obtain rfl:=sI h
 exact rT
instance t_h:FI Tryz.prog 146 (∀ (x0:zP) (x1:Int),FnK Tryz.prog 146 [yH x0,I x1] (fun r:(List (List Int)) => [lM r]) (fun _ => []) (f_h x0 x1)):=⟨Tryz.call146,fun x0 x1 => FnK.mk (u_h x0 x1)⟩
section
attribute [local irreducible] RW CW DK OkL Ok wA wG vV vW XS.post rng tV uQ ixO zX xQ vR yZ zH GTo zL FnC FnK uR qH Kp Lk BsL BuL RpL Bk Lc
instance (x0:zP):LH (R:=(List (List Int))) (zKB x0) [1] [] (fun s1 => [(3,L 1 lV s1.1),(4,I s1.2)]) (.xe 0 [1] fun r4 => [(3,L 1 lV r4)]):=⟨⟩
instance t_aK:FI Tryz.prog 108 (∀ (x0:zP),FnK Tryz.prog 108 [yH x0] (fun r:(List (List Int)) => [lM r]) (fun _ => []) (zTr x0)):=⟨Tryz.call108,fun x0 => iF Tryz.func108⟩
instance (x0:List Int):LH (R:=Bool) (zUk x0) [0] [] (fun s1 => [(3,I s1)]) (.xs (.xe 0 [0] fun _ => []) .xr):=⟨⟩
instance t_a1:FI Tryz.prog 109 (∀ (x0:List Int),FnK Tryz.prog 109 [T.ro (lV x0)] (fun r:Bool => [B r]) (fun _ => []) (zRJ x0)):=⟨Tryz.call109,fun x0 => iF Tryz.func109⟩
instance (r1:(List (List Int))):LH (R:=Bool) (zKC r1) [7] [] (fun s1 => [(8,I s1)]) (.xs (.xe 0 [7] fun _ => []) .xr):=⟨⟩
instance t_at:FI Tryz.prog 63 (∀ (x0:SPr) (x1:zC) (x2:List (List Int)),FnK Tryz.prog 63 [qPr x0,wB x1,T.ro (lM x2)] (fun r:Bool => [B r]) (fun _ => []) (zRP x0 x1 x2)):=⟨Tryz.call63,fun x0 x1 x2 => iF Tryz.func63⟩
instance t_bz:FI Tryz.prog 34 (∀ (x0:SPr) (x1:zC) (x2:List (List Int)) (x3:List (List Int)),FnK Tryz.prog 34 [qPr x0,wB x1,T.ro (lM x2),T.ro (lM x3)] (fun r:Int => [I r]) (fun _ => []) (zT1 x0 x1 x2 x3)):=⟨Tryz.call34,fun x0 x1 x2 x3 => iF Tryz.func34⟩
instance (x0:List (List Int)):LH (R:=(List Int)) (zRQ x0) [0] [] (fun s1 => [(3,L 1 I s1.1),(4,I s1.2)]) (.xe 0 [0] fun r4 => [(3,L 1 I r4)]):=⟨⟩
instance t_V:FI Tryz.prog 64 (∀ (x0:List (List Int)),FnK Tryz.prog 64 [T.ro (lM x0)] (fun r:(List Int) => [lV r]) (fun _ => []) (f_V x0)):=⟨Tryz.call64,fun x0 => iF Tryz.func64⟩
instance (x0:List Int) (x1:Int):LH (R:=(List (List Int))) (zO3 x0 x1) [0,1] [] (fun s1 => [(5,L 1 lV s1.1),(6,I s1.2)]) (.xe 0 [0,1] fun r7 => [(5,L 1 lV r7)]):=⟨⟩
instance t_Q:FI Tryz.prog 68 (∀ (x0:List Int) (x1:Int),FnK Tryz.prog 68 [T.ro (lV x0),I x1] (fun r:(List (List Int)) => [lM r]) (fun _ => []) (f_Q x0 x1)):=⟨Tryz.call68,fun x0 x1 => iF Tryz.func68⟩
instance t_a0:FI Tryz.prog 140 (∀ (x0:zC) (x1:List (List Int)) (x2:List Int) (x3:Int),FnK Tryz.prog 140 [wB x0,T.ro (lM x1),T.ro (lV x2),I x3] (fun r:(List Int) => [lV r]) (fun _ => []) (zK6 x0 x1 x2 x3)):=⟨Tryz.call140,fun x0 x1 x2 x3 => iF Tryz.func140⟩
instance (x0:zC) (x1:List (List Int)) (x3:List Int) (s5:(List Int) × Int):LH (R:=(List Int)) (zRH x0 x1 x3 s5) [1,3,4,9] [] (fun s6 => [(2,T.ro (lV s6.1)),(10,I s6.2)]) (.xe 2 [] fun r4 => [(2,T.ro (lV r4))]):=⟨⟩
instance (x0:zC) (x1:List (List Int)) (x3:List Int):LH (R:=(List Int)) (zRI x0 x1 x3) [1,3,4] [] (fun s5 => [(2,T.ro (lV s5.1)),(9,I s5.2)]) (.xe 0 [1,3,4] fun r6 => [(2,T.ro (lV r6))]):=⟨⟩
instance t_K:FI Tryz.prog 141 (∀ (x0:zC) (x1:List (List Int)) (x2:List Int) (x3:List Int),FnK Tryz.prog 141 [wB x0,T.ro (lM x1),T.ro (lV x2),T.ro (lV x3)] (fun r:(List Int) => [T.ro (lV r)]) (fun _ => []) (f_K x0 x1 x2 x3)):=⟨Tryz.call141,fun x0 x1 x2 x3 => iF Tryz.func141⟩
instance:GHs Tryz.f112.results:=⟨⟩
instance:GH Tryz.f112.results 2 3 0 (.tr 8 22):=⟨⟩
instance:GH Tryz.f112.results 2 4 0 (.tr 9 23):=⟨⟩
instance:GH Tryz.f112.results 2 5 0 (.fz 8):=⟨⟩
instance:GH Tryz.f112.results 2 10 0 (.tr 11 43):=⟨⟩
instance:GH Tryz.f112.results 0 62 0 (.tr 44 9):=⟨⟩
instance:GH Tryz.f112.results 2 13 0 (.fz 8):=⟨⟩
instance:GH Tryz.f112.results 2 20 0 (.tr 15 83):=⟨⟩
instance:GH Tryz.f112.results 0 102 0 (.fz 90):=⟨⟩
instance:GH Tryz.f112.results 0 113 0 (.tr 103 9):=⟨⟩
instance:GH Tryz.f112.results 2 18 0 (.tr 9 113):=⟨⟩
instance (x0:SPr) (x1:zC) (x2:List (List Int)) (s5:(List (List Int)) × Int):LH (R:=(List (List Int))) (zRR x0 x1 x2 s5) [2,3,4,7,8,9,10] [] (fun s6 => [(11,T.ro (lV s6.1)),(12,I s6.2)]) (.xe 2 [] fun r5 => [(11,T.ro (lV r5))]):=⟨⟩
instance (x0:SPr) (x1:zC) (x2:List (List Int)) (m1:Nat):LH (R:=(List (List Int))) (zRS x0 x1 x2 m1) [2,3,4,7,8] [8] (fun s5 => [(9,L 1 lV s5.1),(10,I s5.2)]) (.xe 0 [] fun r12 => [(9,L 1 lV r12)]):=⟨⟩
instance (x0:SPr) (x1:zC) (x2:List (List Int)) (m1:Nat) (s13:(List (List Int)) × Int):LH (R:=(List (List Int))) (zRT x0 x1 x2 m1 s13) [2,3,4,7,8,13] [] (fun s14 => [(9,L 1 lV s14.1),(14,I s14.2)]) (.xe 6 [] fun r26 => [(9,L 1 lV r26)]):=⟨⟩
instance (x0:SPr) (x1:zC) (x2:List (List Int)) (m1:Nat):LH (R:=(List (List Int))) (zO4 x0 x1 x2 m1) [2,3,4,7,8] [] (fun s13 => [(9,L 1 lV s13.1),(13,I s13.2)]) (.xe 4 [2,3,4,7,8] fun r28 => [(9,L 1 lV r28)]):=⟨⟩
instance t_n:FI Tryz.prog 112 (∀ (x0:SPr) (x1:zC) (x2:List (List Int)),FnK Tryz.prog 112 [qPr x0,wB x1,T.ro (lM x2)] (fun r:(List (List Int)) => [lM r]) (fun _ => []) (f_n x0 x1 x2)):=⟨Tryz.call112,fun x0 x1 x2 => iF Tryz.func112⟩
instance (x0:SPr) (x1:zC) (v1:Int):LH (R:=(List (List Int))) (zKE x0 x1 v1) [2,3,5] [] (fun s1 => [(6,L 1 lV s1.1),(7,I s1.2)]) (.xe 0 [2,3,5] fun r9 => [(6,L 1 lV r9)]):=⟨⟩
instance t_aH:FI Tryz.prog 66 (∀ (x0:SPr) (x1:zC),FnK Tryz.prog 66 [qPr x0,wB x1] (fun r:(List (List Int)) => [lM r]) (fun _ => []) (zTz x0 x1)):=⟨Tryz.call66,fun x0 x1 => iF Tryz.func66⟩
instance t_bm:FI Tryz.prog 67 (∀ (x0:Int) (x1:Int) (x2:List Int),FnK Tryz.prog 67 [I x0,I x1,T.ro (lV x2)] (fun r:(List Int) => [lV r]) (fun _ => []) (zRF x0 x1 x2)):=⟨Tryz.call67,fun x0 x1 x2 => iF Tryz.func67⟩
instance (x0:List Int):LH (R:=Int) (zHa x0) [0] [] (fun s1 => [(3,I s1)]) (.xs (.xe 0 [] fun _ => []) .xr):=⟨⟩
instance t_A:FI Tryz.prog 99 (∀ (x0:List Int),FnK Tryz.prog 99 [T.ro (lV x0)] (fun r:Int => [I r]) (fun _ => []) (f_A x0)):=⟨Tryz.call99,fun x0 => iF Tryz.func99⟩
instance (x0:Int) (x1:List (List Int)):LH (R:=(List Int)) (zRE x0 x1) [0,1] [] (fun s1 => [(7,L 1 I s1.1),(8,I s1.2)]) (.xe 0 [0,1] fun r12 => [(7,L 1 I r12)]):=⟨⟩
instance t_Z:FI Tryz.prog 98 (∀ (x0:Int) (x1:List (List Int)) (x2:List Int),FnK Tryz.prog 98 [I x0,T.ro (lM x1),T.ro (lV x2)] (fun r:(List Int) => [lV r]) (fun _ => []) (f_Z x0 x1 x2)):=⟨Tryz.call98,fun x0 x1 x2 => iF Tryz.func98⟩
instance (x0:Int) (x1:Int):LH (R:=Int) (zK3 x0 x1) [0,1] [] (fun s1 => [(5,I s1)]) (.xs (.xe 0 [0,1] fun _ => []) .xr):=⟨⟩
instance t_aE:FI Tryz.prog 100 (∀ (x0:Int) (x1:Int),FnK Tryz.prog 100 [I x0,I x1] (fun r:Int => [I r]) (fun _ => []) (zTk x0 x1)):=⟨Tryz.call100,fun x0 x1 => iF Tryz.func100⟩
end
end Go.Wk

namespace Go.Wk
open Go Go.Proofs Go.Ab
set_option maxRecDepth 100000
set_option maxHeartbeats 4000000
section
attribute [local irreducible] RW CW DK OkL Ok wA wG vV vW XS.post rng tV uQ ixO zX xQ vR yZ zH GTo zL FnC FnK uR qH Kp Lk BsL BuL RpL Bk Lc
instance:GHs Tryz.f58.results:=⟨⟩
instance:GH Tryz.f58.results 2 2 0 (.tr 5 12):=⟨⟩
instance:GH Tryz.f58.results 2 6 0 (.tr 7 25):=⟨⟩
instance:GH Tryz.f58.results 0 7 0 (.fz 40):=⟨⟩
instance:GH Tryz.f58.results 2 10 0 (.tr 9 41):=⟨⟩
instance:GH Tryz.f58.results 0 62 0 (.tr 59 9):=⟨⟩
instance:GH Tryz.f58.results 2 15 0 (.tr 9 62):=⟨⟩
instance:GH Tryz.f58.results 0 80 0 (.fz 79):=⟨⟩
instance:GH Tryz.f58.results 0 81 0 (.tr 63 9):=⟨⟩
instance:GH Tryz.f58.results 0 87 0 (.tr 84 9):=⟨⟩
instance:GH Tryz.f58.results 2 19 0 (.tr 9 87):=⟨⟩
instance:GH Tryz.f58.results 2 4 0 (.tr 5 9):=⟨⟩
instance (x0:Int) (s5:(List (List Int)) × Int) (r3:Int) (r7:(List Int)):LH (R:=(List (List Int))) (zHb x0 s5 r3 r7) [0,1,5,6,7,8] [] (fun s6 => [(9,L 1 (Ro lV) s6.1),(10,B s6.2.1),(11,I s6.2.2)]) (.xe 2 [5,8] fun r32 => [(9,L 1 (Ro lV) r32.1),(10,B r32.2)]):=⟨⟩
instance (x0:Int) (x1:List (List Int)):LH (R:=(List (List Int))) (zOr x0 x1) [0,1] [] (fun s5 => [(5,L 1 (Ro lV) s5.1),(6,I s5.2)]) (.xe 0 [0,1] fun r36 => [(5,L 1 (Ro lV) r36)]):=⟨⟩
instance t_m:FI Tryz.prog 58 (∀ (x0:Int) (x1:List (List Int)),FnK Tryz.prog 58 [I x0,T.ro (lM x1)] (fun r:(List (List Int)) => [(L 1 (Ro lV)) r]) (fun _ => []) (f_m x0 x1)):=⟨Tryz.call58,fun x0 x1 => iF Tryz.func58⟩
instance:GHs Tryz.f110.results:=⟨⟩
instance:GH Tryz.f110.results 2 2 0 (.tr 5 10):=⟨⟩
instance:GH Tryz.f110.results 2 3 0 (.tr 6 11):=⟨⟩
instance:GH Tryz.f110.results 0 30 0 (.tr 18 6):=⟨⟩
instance:GH Tryz.f110.results 0 33 0 (.fz 6):=⟨⟩
instance:GH Tryz.f110.results 0 33 1 (.res 32 6 []):=⟨⟩
instance (x1:List (List Int)) (r1:(List (List Int))):LH (R:=(List (List Int))) (zK4 x1 r1) [0,1,5] [] (fun s1 => [(6,L 1 lV s1.1),(7,I s1.2)]) (.xe 0 [1,5] fun r8 => [(6,L 1 lV r8)]):=⟨⟩
instance t_ap:FI Tryz.prog 110 (∀ (x0:Int) (x1:List (List Int)),FnK Tryz.prog 110 [I x0,T.ro (lM x1)] (fun r:(List (List Int)) => [(L 1 (Ro lV)) r]) (fun _ => []) (zRG x0 x1)):=⟨Tryz.call110,fun x0 x1 => iF Tryz.func110⟩
instance (x2:Int) (r1:(List (List Int))):LH (R:=(List (List Int))) (zHM x2 r1) [2,7] [] (fun s1 => [(8,L 1 lV s1.1),(9,I s1.2)]) (.xe 0 [2,7] fun r10 => [(8,L 1 lV r10)]):=⟨⟩
instance t_aq:FI Tryz.prog 97 (∀ (x0:Int) (x1:List (List Int)) (x2:Int),FnK Tryz.prog 97 [I x0,T.ro (lM x1),I x2] (fun r:(List (List Int)) => [lM r]) (fun _ => []) (zTl x0 x1 x2)):=⟨Tryz.call97,fun x0 x1 x2 => iF Tryz.func97⟩
instance (x2:Int) (r1:(List (List Int))):LH (R:=(List Int) × Bool) (zO5 x2 r1) [0,1,2,10,11] [] (fun s1 => [(12,L 1 (Ro lV) s1.1),(13,I s1.2)]) (.xe 0 [10] fun r10 => [(12,L 1 (Ro lV) r10)]):=⟨⟩
instance t_P:FI Tryz.prog 65 (∀ (x0:Int) (x1:List (List Int)) (x2:Int) (x3:List Int),FnK Tryz.prog 65 [I x0,T.ro (lM x1),I x2,T.ro (lV x3)] (fun r:(List Int) × Bool => [lV r.1,B r.2]) (fun _ => []) (f_P x0 x1 x2 x3)):=⟨Tryz.call65,fun x0 x1 x2 x3 => iF Tryz.func65⟩
instance t_aP:FI Tryz.prog 84 (∀ (x0:Int),FnK Tryz.prog 84 [I x0] (fun r:Bool => [B r]) (fun _ => []) (zOm x0)):=⟨Tryz.call84,fun x0 => iF Tryz.func84⟩
instance t_aO:FI Tryz.prog 85 (∀ (x0:Int) (x1:Int) (x2:Int),FnK Tryz.prog 85 [I x0,I x1,I x2] (fun r:Bool => [B r]) (fun _ => []) (zLR x0 x1 x2)):=⟨Tryz.call85,fun x0 x1 x2 => iF Tryz.func85⟩
instance (x0:SPr) (x1:List Int):LH (R:=Bool) (zNv x0 x1) [0,15,16] [] (fun s1 => [(17,I s1)]) (.xs (.xe 0 [0,15,16] fun _ => []) .xr):=⟨⟩
instance t_aQ:FI Tryz.prog 165 (∀ (x0:SPr) (x1:List Int),FnK Tryz.prog 165 [T.ro ((Pt xS) x0),T.ro (lV x1)] (fun r:Bool => [B r]) (fun _ => []) (zSW x0 x1)):=⟨Tryz.call165,fun x0 x1 => iF Tryz.func165⟩
instance (x0:List Int):LH (R:=Bool) (zKs x0) [5,6] [] (fun s1 => [(7,I s1)]) (.xs (.xe 0 [5,6] fun _ => []) .xr):=⟨⟩
instance t_E:FI Tryz.prog 118 (∀ (x0:List Int),FnK Tryz.prog 118 [T.ro (lV x0)] (fun r:Bool => [B r]) (fun _ => []) (f_E x0)):=⟨Tryz.call118,fun x0 => iF Tryz.func118⟩
instance t_bg:FI Tryz.prog 152 (∀ (x0:SPr) (x1:Int) (x2:List Int),FnK Tryz.prog 152 [T.ro ((Pt xS) x0),I x1,T.ro (lV x2)] (fun r:Bool => [B r]) (fun _ => []) (zQY x0 x1 x2)):=⟨Tryz.call152,fun x0 x1 x2 => iF Tryz.func152⟩
instance (x0:SPr):LH (R:=Bool) (zLS x0) [1,3,30,31] [] (fun s1 => [(4,I s1.1),(32,I s1.2)]) (.xs (.xe 0 [30,31] fun _ => []) .xr):=⟨⟩
instance (x0:SPr) (s7:Int) (v12:List (List Int)):LH (R:=Bool) (zQZ x0 s7 v12) [1,3,7,49,50,78,79] [] (fun s8 => [(80,I s8)]) (.xs (.xe 4 [7,78,79] fun _ => []) .xr):=⟨⟩
instance (x0:SPr):LH (R:=Bool) (zLT x0) [1,3,49] [] (fun s7 => [(50,I s7)]) (.xs (.xe 2 [1,3,49] fun _ => []) .xr):=⟨⟩
instance t_q:FI Tryz.prog 129 (∀ (x0:SPr),FnK Tryz.prog 129 [qPr x0] (fun r:Bool => [B r]) (fun _ => []) (f_q x0)):=⟨Tryz.call129,fun x0 => iF Tryz.func129⟩
end
theorem u_x (x0:List Int) (r:(List Int)) (h:f_x x0 = some r):FnC Tryz.prog 114 [T.ro (lV x0)] [lV r] []:=by
 refine fB Tryz.func114 (fun St W w0 v => ?_)
 refine sR (oP (zC4 1 rfl) ?_)
 refine rN (CW.seq (sR (zR ?_)))
 refine RW.isnil Tryz.underlying22 (wT rfl rfl) (.inl rfl) rfl rfl (fun b1 hb1 => ?_)
 refine rN (CW.cond _ rfl (fun hc => ?_) (fun hc => ?_))
 have hx:=hb1 hc
 subst hx
 have h:some ([]) = some r:=by simpa [xQ,f_x] using h
 refine sR (oP (zC4 1 rfl) ?_)
 refine rN (CW.ret (rA ?_))
 obtain rfl:=sI h
 exact rT
 refine CW.skip (nA (sR (oP (zPq elt_22 rfl) ?_)))
 refine zR ?_
 obtain ⟨v2,hv2,h⟩:=bd h
 refine oP (zKV (f:=I) (g:=I) elt_22 (fun _ => rfl) (fun _ => rfl) inferInstance hv2 rfl (wT rfl rfl) rfl) ?_
 refine yJ ?_
 refine RW.ghost (zL.tr 2 7 _ rfl rfl (zG (zK (Enc.clean (f:=I)))) rfl) ?_
 refine rN (CW.ret ?_)
 obtain rfl:=sI h
 exact rT
instance t_x:FI Tryz.prog 114 (∀ (x0:List Int),FnK Tryz.prog 114 [T.ro (lV x0)] (fun r:(List Int) => [lV r]) (fun _ => []) (f_x x0)):=⟨Tryz.call114,fun x0 => FnK.mk (u_x x0)⟩
section
attribute [local irreducible] RW CW DK OkL Ok wA wG vV vW XS.post rng tV uQ ixO zX xQ vR yZ zH GTo zL FnC FnK uR qH Kp Lk BsL BuL RpL Bk Lc
instance (x2:Int) (r3:(List Int)):LH (R:=(List Int)) (zRa x2 r3) [0,2,6,16] [] (fun s1 => [(1,L 1 I s1.1),(17,I s1.2)]) (.xe 0 [16] fun r8 => [(1,L 1 I r8)]):=⟨⟩
instance (g_c:SPr → (List Int) → (List Int) → Option (List Int)) (x0:SPr) (x2:Int) (s7:(List Int) × Int) (v17:Int):LH (R:=(List Int)) (zVu g_c x0 x2 s7 v17) [0,2,8,58,59,60,65] [] (fun s8 => [(1,L 1 I s8.1),(66,I s8.2)]) (.xe 4 [8,65] fun r22 => [(1,L 1 I r22)]):=⟨⟩
instance (g_c:SPr → (List Int) → (List Int) → Option (List Int)) (x0:SPr) (x2:Int) (r3:(List Int)):LH (R:=(List Int)) (zVv g_c x0 x2 r3) [0,2,58,59] [] (fun s7 => [(1,L 1 I s7.1),(60,I s7.2)]) (.xe 2 [0,2,58,59] fun r24 => [(1,L 1 I r24)]):=⟨⟩
instance (g_c:SPr → (List Int) → (List Int) → Option (List Int)) (x0:SPr) (x2:Int) (s15:(List Int) × Int) (v25:Int):LH (R:=(List Int)) (zVw g_c x0 x2 s15 v25) [0,2,8,58,59,60,65] [] (fun s16 => [(1,L 1 I s16.1),(66,I s16.2)]) (.xe 4 [8,65] fun r30 => [(1,L 1 I r30)]):=⟨⟩
instance (g_c:SPr → (List Int) → (List Int) → Option (List Int)) (x0:SPr) (x2:Int) (r3:(List Int)):LH (R:=(List Int)) (zVx g_c x0 x2 r3) [0,2,58,59] [] (fun s15 => [(1,L 1 I s15.1),(60,I s15.2)]) (.xe 2 [0,2,58,59] fun r32 => [(1,L 1 I r32)]):=⟨⟩
theorem zXU {g_c:SPr → (List Int) → (List Int) → Option (List Int)} [FI Tryz.prog 168 (∀ (x0:SPr) (x1:List Int) (x2:List Int),FnK Tryz.prog 168 [T.ro ((Pt xS) x0),L 1 I x1,T.ro (lV x2)] (fun _:(List Int) => []) (fun r => [(1,lV r)]) (g_c x0 x1 x2))]:∀ (x0:SPr) (x1:List Int) (x2:Int),FnK Tryz.prog 177 [T.ro ((Pt xS) x0),L 1 I x1,I x2] (fun _:(List Int) => []) (fun r => [(1,lV r)]) (b_b g_c x0 x1 x2):=fun x0 x1 x2 => iF Tryz.func177
theorem zXV {g_c:SPr → (List Int) → (List Int) → Option (List Int)} (H_c:∀ (x0:SPr) (x1:List Int) (x2:List Int) r,g_c x0 x1 x2 = some r → FnC Tryz.prog 168 [T.ro ((Pt xS) x0),L 1 I x1,T.ro (lV x2)] [] [(1,lV r)]) (x0:SPr) (x1:List Int) (x2:Int) (r:(List Int)) (h:b_b g_c x0 x1 x2 = some r):FnC Tryz.prog 177 [T.ro ((Pt xS) x0),L 1 I x1,I x2] [] [(1,lV r)]:=by
 have:FI Tryz.prog 168 (∀ (x0:SPr) (x1:List Int) (x2:List Int),FnK Tryz.prog 168 [T.ro ((Pt xS) x0),L 1 I x1,T.ro (lV x2)] (fun _:(List Int) => []) (fun r => [(1,lV r)]) (g_c x0 x1 x2)):=⟨Tryz.call168,fun x0 x1 x2 => FnK.mk (H_c x0 x1 x2)⟩
 exact (zXU x0 x1 x2).go h
instance (g_b:SPr → (List Int) → Int → Option (List Int)) (x0:SPr) (s5:(List Int) × Int) (v1:Int):LH (R:=(List Int)) (zRb g_b x0 s5 v1) [0,6,8,9,10,15] [] (fun s6 => [(1,L 1 I s6.1),(16,I s6.2)]) (.xe 2 [6,15] fun r4 => [(1,L 1 I r4)]):=⟨⟩
instance (g_b:SPr → (List Int) → Int → Option (List Int)) (x0:SPr) (x2:List Int):LH (R:=(List Int)) (zRc g_b x0 x2) [0,8,9] [] (fun s5 => [(1,L 1 I s5.1),(10,I s5.2)]) (.xe 0 [0,8,9] fun r6 => [(1,L 1 I r6)]):=⟨⟩
theorem zXW {g_b:SPr → (List Int) → Int → Option (List Int)} [FI Tryz.prog 177 (∀ (x0:SPr) (x1:List Int) (x2:Int),FnK Tryz.prog 177 [T.ro ((Pt xS) x0),L 1 I x1,I x2] (fun _:(List Int) => []) (fun r => [(1,lV r)]) (g_b x0 x1 x2))]:∀ (x0:SPr) (x1:List Int) (x2:List Int),FnK Tryz.prog 168 [T.ro ((Pt xS) x0),L 1 I x1,T.ro (lV x2)] (fun _:(List Int) => []) (fun r => [(1,lV r)]) (b_c g_b x0 x1 x2):=fun x0 x1 x2 => iF Tryz.func168
theorem zXX {g_b:SPr → (List Int) → Int → Option (List Int)} (H_b:∀ (x0:SPr) (x1:List Int) (x2:Int) r,g_b x0 x1 x2 = some r → FnC Tryz.prog 177 [T.ro ((Pt xS) x0),L 1 I x1,I x2] [] [(1,lV r)]) (x0:SPr) (x1:List Int) (x2:List Int) (r:(List Int)) (h:b_c g_b x0 x1 x2 = some r):FnC Tryz.prog 168 [T.ro ((Pt xS) x0),L 1 I x1,T.ro (lV x2)] [] [(1,lV r)]:=by
 have:FI Tryz.prog 177 (∀ (x0:SPr) (x1:List Int) (x2:Int),FnK Tryz.prog 177 [T.ro ((Pt xS) x0),L 1 I x1,I x2] (fun _:(List Int) => []) (fun r => [(1,lV r)]) (g_b x0 x1 x2)):=⟨Tryz.call177,fun x0 x1 x2 => FnK.mk (H_b x0 x1 x2)⟩
 exact (zXW x0 x1 x2).go h
end
theorem zXm:∀ n,(∀ (x0:SPr) (x1:List Int) (x2:Int) r,zRd n x0 x1 x2 = some r → FnC Tryz.prog 177 [T.ro ((Pt xS) x0),L 1 I x1,I x2] [] [(1,lV r)]) ∧ (∀ (x0:SPr) (x1:List Int) (x2:List Int) r,zOn n x0 x1 x2 = some r → FnC Tryz.prog 168 [T.ro ((Pt xS) x0),L 1 I x1,T.ro (lV x2)] [] [(1,lV r)]):=by
  intro n
  induction n with
  | zero => exact ⟨(fun _ _ _ r h => by simp [zRd] at h),(fun _ _ _ r h => by simp [zOn] at h)⟩
  | succ n ih => exact ⟨(fun x0 x1 x2 r h => zXV ih.2 x0 x1 x2 r (by simpa [zRd] using h)),(fun x0 x1 x2 r h => zXX ih.1 x0 x1 x2 r (by simpa [zOn] using h))⟩
theorem u_b (x0:SPr) (x1:List Int) (x2:Int) (r:(List Int)) (h:f_b x0 x1 x2 = some r):FnC Tryz.prog 177 [T.ro ((Pt xS) x0),L 1 I x1,I x2] [] [(1,lV r)]:=by
 obtain ⟨n,hn⟩:=qG h
 exact (zXm n).1 x0 x1 x2 r hn
theorem u_c (x0:SPr) (x1:List Int) (x2:List Int) (r:(List Int)) (h:f_c x0 x1 x2 = some r):FnC Tryz.prog 168 [T.ro ((Pt xS) x0),L 1 I x1,T.ro (lV x2)] [] [(1,lV r)]:=by
 obtain ⟨n,hn⟩:=qG h
 exact (zXm n).2 x0 x1 x2 r hn
instance t_b:FI Tryz.prog 177 (∀ (x0:SPr) (x1:List Int) (x2:Int),FnK Tryz.prog 177 [T.ro ((Pt xS) x0),L 1 I x1,I x2] (fun _:(List Int) => []) (fun r => [(1,lV r)]) (f_b x0 x1 x2)):=⟨Tryz.call177,fun x0 x1 x2 => FnK.mk (u_b x0 x1 x2)⟩
instance t_c:FI Tryz.prog 168 (∀ (x0:SPr) (x1:List Int) (x2:List Int),FnK Tryz.prog 168 [T.ro ((Pt xS) x0),L 1 I x1,T.ro (lV x2)] (fun _:(List Int) => []) (fun r => [(1,lV r)]) (f_c x0 x1 x2)):=⟨Tryz.call168,fun x0 x1 x2 => FnK.mk (u_c x0 x1 x2)⟩
section
attribute [local irreducible] RW CW DK OkL Ok wA wG vV vW XS.post rng tV uQ ixO zX xQ vR yZ zH GTo zL FnC FnK uR qH Kp Lk BsL BuL RpL Bk Lc
instance (x0:SPr) (x1:List Int) (x2:Int):LH (R:=(List Int)) (zKt x0 x1 x2) [0,1,11] [] (fun s1 => [(7,L 1 I s1.1),(12,I s1.2)]) (.xe 0 [0,1,11] fun r4 => [(7,L 1 I r4)]):=⟨⟩
instance t_ay:FI Tryz.prog 154 (∀ (x0:SPr) (x1:List Int) (x2:Int),FnK Tryz.prog 154 [T.ro ((Pt xS) x0),T.ro (lV x1),I x2] (fun r:(List Int) => [lV r]) (fun _ => []) (zSX x0 x1 x2)):=⟨Tryz.call154,fun x0 x1 x2 => iF Tryz.func154⟩
instance (x0:SPr) (v3:List Int) (v6:Int):LH (R:=(List Int)) (zRe x0 v3 v6) [0,1,2,9,19,20,21,32] [] (fun s6 => [(7,L 1 I s6.1),(33,I s6.2)]) (.xe 2 [9,32] fun r9 => [(7,L 1 I r9)]):=⟨⟩
instance (x0:SPr) (x1:Int) (x2:List Int) (v2:List (List Int)):LH (R:=(List Int)) (zRf x0 x1 x2 v2) [0,1,2,19,20] [] (fun s5 => [(7,L 1 I s5.1),(21,I s5.2)]) (.xe 0 [0,1,2,19,20] fun r11 => [(7,L 1 I r11)]):=⟨⟩
instance t_C:FI Tryz.prog 155 (∀ (x0:SPr) (x1:Int) (x2:List Int),FnK Tryz.prog 155 [T.ro ((Pt xS) x0),I x1,T.ro (lV x2)] (fun r:(List Int) => [lV r]) (fun _ => []) (f_C x0 x1 x2)):=⟨Tryz.call155,fun x0 x1 x2 => iF Tryz.func155⟩
instance (x0:List Int) (x1:List Int):LH (R:=Bool) (zVy x0 x1) [0,1,12] [] (fun s1 => [(13,I s1)]) (.xs (.xe 0 [0,1,12] fun _ => []) .xr):=⟨⟩
instance t_R:FI Tryz.prog 134 (∀ (x0:List Int) (x1:List Int),FnK Tryz.prog 134 [T.ro (lV x0),T.ro (lV x1)] (fun r:Bool => [B r]) (fun _ => []) (f_R x0 x1)):=⟨Tryz.call134,fun x0 x1 => iF Tryz.func134⟩
instance (x0:SPr) (s5:(List Int) × (List Int) × Int):LH (R:=(List Int)) (zOo x0 s5) [0,7,14,15] [] (fun s6 => [(5,L 1 I s6.1),(6,L 1 I s6.2)]) (.xe 2 [7] fun r6 => [(5,L 1 I r6.1),(6,L 1 I r6.2)]):=⟨⟩
instance (x0:SPr) (r1:(List Int)):LH (R:=(List Int)) (zRg x0 r1) [0,14] [] (fun s5 => [(5,L 1 I s5.1),(6,L 1 I s5.2.1),(15,I s5.2.2)]) (.xe 0 [0,14] fun r8 => [(6,L 1 I r8)]):=⟨⟩
instance t_G:FI Tryz.prog 170 (∀ (x0:SPr) (x1:List Int),FnK Tryz.prog 170 [T.ro ((Pt xS) x0),T.ro (lV x1)] (fun r:(List Int) => [lV r]) (fun _ => []) (f_G x0 x1)):=⟨Tryz.call170,fun x0 x1 => iF Tryz.func170⟩
instance t_bh:FI Tryz.prog 169 (∀ (x0:SPr) (x1:List Int) (x2:List Int),FnK Tryz.prog 169 [T.ro ((Pt xS) x0),T.ro (lV x1),T.ro (lV x2)] (fun r:(List Int) => [lV r]) (fun _ => []) (zRh x0 x1 x2)):=⟨Tryz.call169,fun x0 x1 x2 => iF Tryz.func169⟩
instance t_bi:FI Tryz.prog 156 (∀ (x0:SPr) (x1:List Int) (x2:List Int),FnK Tryz.prog 156 [T.ro ((Pt xS) x0),T.ro (lV x1),T.ro (lV x2)] (fun r:(List Int) => [lV r]) (fun _ => []) (zRi x0 x1 x2)):=⟨Tryz.call156,fun x0 x1 x2 => iF Tryz.func156⟩
instance t_az:FI Tryz.prog 122 (∀ (x0:Int) (x1:Int),FnK Tryz.prog 122 [I x0,I x1] (fun r:(List Int) => [lV r]) (fun _ => []) (zID x0 x1)):=⟨Tryz.call122,fun x0 x1 => iF Tryz.func122⟩
instance (x0:SPr) (x1:Int):LH (R:=yS) (zRj x0 x1) [0,1,4,5,6] [] (fun s1 => [(7,I s1)]) (.xs (.xe 0 [] fun _ => []) .xr):=⟨⟩
instance (x0:SPr) (x1:Int) (s7:Int):LH (R:=yS) (zRk x0 x1 s7) [0,1,4,5,6,8] [] (fun s8 => [(9,I s8)]) (.xs (.xe 4 [] fun _ => []) .xr):=⟨⟩
instance (x0:SPr) (x1:Int):LH (R:=yS) (zRl x0 x1) [0,1,4,5,6] [] (fun s7 => [(8,I s7)]) (.xs (.xe 2 [] fun _ => []) .xr):=⟨⟩
instance (x0:SPr) (x1:Int) (v39:Int):LH (R:=yS) (zRm x0 x1 v39) [0,1,4,5,6,10,11,159] [] (fun s16 => [(12,L 1 I s16.1),(160,I s16.2)]) (.xe 8 [159] fun r42 => [(12,L 1 I r42)]):=⟨⟩
instance (x0:SPr) (x1:Int) (v34:List Int):LH (R:=yS) (zRn x0 x1 v34) [0,1,4,5,6,10] [] (fun s15 => [(11,I s15)]) (.xs (.xe 6 [0,1,5,6,10] fun _ => []) .xr):=⟨⟩
instance t_k:FI Tryz.prog 139 (∀ (x0:SPr) (x1:Int),FnK Tryz.prog 139 [T.ro ((Pt xS) x0),I x1] (fun r:yS => [zFm r]) (fun _ => []) (f_k x0 x1)):=⟨Tryz.call139,fun x0 x1 => iF Tryz.func139⟩
instance (x0:SPr):LH (R:=Int) (zKu x0) [0] [] (fun s1 => [(3,I s1)]) (.xe 0 [0] fun r4 => [(3,I r4)]):=⟨⟩
instance t_N:FI Tryz.prog 95 (∀ (x0:SPr),FnK Tryz.prog 95 [T.ro ((Pt xS) x0)] (fun r:Int => [I r]) (fun _ => []) (f_N x0)):=⟨Tryz.call95,fun x0 => iF Tryz.func95⟩
instance t_aW:FI Tryz.prog 83 (∀ (x0:SPr),FnK Tryz.prog 83 [qPr x0] (fun r:Bool => [B r]) (fun _ => []) (zSY x0)):=⟨Tryz.call83,fun x0 => iF Tryz.func83⟩
instance t_aX:FI Tryz.prog 87 (∀ (x0:zC) (x1:Int),FnK Tryz.prog 87 [T.ro ((Pt yB) x0),I x1] (fun r:zV => [(fun x => T.agg [I x.Prime,I x.xT,(Ro lM) x.Rows]) r]) (fun _ => []) (zLU x0 x1)):=⟨Tryz.call87,fun x0 x1 => iF Tryz.func87⟩
instance (x0:List Int) (x1:Int):LH (R:=Bool) (zNw x0 x1) [1,13,14] [] (fun s1 => [(15,I s1)]) (.xs (.xe 0 [1,13,14] fun _ => []) .xr):=⟨⟩
instance t_aB:FI Tryz.prog 130 (∀ (x0:List Int) (x1:Int) (x2:Int),FnK Tryz.prog 130 [T.ro (lV x0),I x1,I x2] (fun r:Bool => [B r]) (fun _ => []) (zRo x0 x1 x2)):=⟨Tryz.call130,fun x0 x1 x2 => iF Tryz.func130⟩
instance (x0:zV):LH (R:=Bool) (zKv x0) [1,22,23] [] (fun s1 => [(24,I s1)]) (.xs (.xe 0 [1,22,23] fun _ => []) .xr):=⟨⟩
instance t_al:FI Tryz.prog 86 (∀ (x0:zV),FnK Tryz.prog 86 [sE x0] (fun r:Bool => [B r]) (fun _ => []) (zSZ x0)):=⟨Tryz.call86,fun x0 => iF Tryz.func86⟩
instance t_bH:FI Tryz.prog 167 (∀ (x0:Int) (x1:Int),FnK Tryz.prog 167 [(IK .u64) x0,(IK .u64) x1] (fun r:Int × Int => [(IK .u64) r.1,(IK .u64) r.2]) (fun _ => []) (zXo x0 x1)):=⟨Tryz.call167,fun x0 x1 => iF Tryz.func167⟩
instance t_bj:FI Tryz.prog 153 (∀ (x0:Int) (x1:Int),FnK Tryz.prog 153 [(IK .u64) x0,(IK .u64) x1] (fun r:Int × Int => [(IK .u64) r.1,(IK .u64) r.2]) (fun _ => []) (zTa x0 x1)):=⟨Tryz.call153,fun x0 x1 => iF Tryz.func153⟩
end
theorem u_i (x0:List Int) (x1:Int) (r:(List Int)) (h:f_i x0 x1 = some r):FnC Tryz.prog 131 [T.ro (lV x0),I x1] [lV r] []:=by
 refine fB Tryz.func131 (fun St W w0 v => ?_)
 refine sR (oP (zC4 1 rfl) ?_)
 refine rN (CW.seq (sR (zR ?_)))
 refine vH ?_
 refine rN (cn h (fun hc h => ?_) (fun hc h => ?_))
 ·refine CW.region ?_
  cases h
 ·refine CW.skip (nA (sR (zR ?_)))
  refine zAq ?_
  refine oP (zIq Tryz.underlying3 Tryz.underlying156 rfl rfl) ?_
  refine zR ?_
  refine oP (zIq Tryz.underlying3 Tryz.underlying156 rfl rfl) ?_
  obtain ⟨r1,hr1,h⟩:=bd h
  refine cA Tryz.call153 (FnK.go (t_bj.h _ _) hr1) ?_
  refine zP5 ?_
  refine zHy ?_
  refine zHy ?_
  refine yJ ?_
  refine yJ ?_
  refine rN (CW.seq (sR (zR ?_)))
  refine oP (zPw rfl rfl rfl) ?_
  refine zR ?_
  refine RW.cases 23 _ rfl (fun hc => ?_) (fun hc => ?_)
  ·have h:=cT hc h
   refine sk2 ?_
   refine sk2 ?_
   refine uB ?_
   refine rN (CW.condT rfl ?_)
   refine CW.region ?_
   cases h
  ·have h:=cF hc h
   refine zBu ?_
   refine RW.cons (zQ.guard 2 false 23 (zPw rfl rfl rfl)) ?_
   refine uB ?_
   refine rN (cn h (fun hc h => ?_) (fun hc h => ?_))
   ·refine CW.region ?_
    cases h
   ·refine CW.skip (nA (sR (zR ?_)))
    refine oP (zIq Tryz.underlying156 Tryz.underlying3 rfl rfl) ?_
    obtain ⟨m2,hm2,h⟩:=bd h
    refine oP (zAR (f:=I) (z:=0) elt_22 (rfl) hm2 rfl rfl rfl) ?_
    refine yJ ?_
    refine RW.ghost (zL.tr 7 30 _ rfl rfl (zG (zK (Enc.clean (f:=I)))) rfl) ?_
    refine rN (CW.seq (CW.to [(0,T.ro (lV x0)),(7,L 1 I (List.replicate m2 (0:Int)))] ⟨rfl,rfl,trivial⟩ ?_))
    refine CW.region (zR ?_)
    refine zR ?_
    refine oP (zIr elt_22 rfl (fun _ => (zBC.same rfl rfl)) (fun _ => (zEB.ro (wT rfl rfl))) (Nat.zero_le _) (Nat.le_refl _) rfl) ?_
    refine yJ ?_
    refine rN (CW.seq (CW.block ?_))
    obtain ⟨r6,hr6,h⟩:=bd h
    refine CW.lp (s:=(xW (List.replicate m2 (0:Int)) 0 (x0.take (((List.replicate m2 (0:Int)).length) - 0)),((min x0.length (((List.replicate m2 (0:Int)).length) - 0):Nat):Int))) jI (fun s1:(List Int) × Int => xK [(7,L 1 I s1.1),(8,I s1.2)]) (fun (r6:(List Int)) e E => e = .exit 0 ∧ zL ⟨St,W,w0,Tryz.f131.ntmps⟩ E (xK [(7,L 1 I r6)])) (.has ⟨rfl,rfl,trivial⟩) (fun s1 x h => ?_) hr6 (fun e E hq => ?_)
    ·refine CW.seq (sR (zR ?_))
     refine zR ?_
     refine zJ1 ?_
     refine vH ?_
     refine rN (cn h (fun hc h => ?_) (fun hc h => ?_))
     ·refine CW.skip (nA (CW.block ?_))
      obtain ⟨v3,hv3,h⟩:=bd h
      obtain ⟨v4,hv4,h⟩:=bd h
      obtain ⟨v5,hv5,h⟩:=bd h
      refine CW.dk ?_
      refine yN [(8,_)] ?_
      refine yN [(7,_)] ?_
      refine yN [(8,_)] ?_
      refine dG [(39,_),(7,_),(40,_)] [([(41,some (T.sub 7 [] 1 ((s1.2:Int).toNat) ((s1.1.length:Int).toNat)))],[(41,0)])] ⟨rfl,rfl,rfl,trivial⟩ (fun E h => zQ.opE (zJl row_22 hv3 (uJ h.1 h.2.1 rfl rfl) (zPo (zEe hv3) h.2.2.1) zUw rfl) rfl) ?_
      refine yN [(7,_)] ?_
      refine yN [(8,_)] ?_
      refine dG [(42,_),(7,_),(43,_)] [([(44,some (T.sub 7 [] 1 ((0:Int).toNat) ((s1.2:Int).toNat)))],[(44,0)])] ⟨rfl,rfl,rfl,trivial⟩ (fun E h => zQ.opE (zJl row_22 hv4 (uJ h.1 h.2.1 rfl rfl) zTH (zPo (zEf hv4) h.2.2.1) rfl) rfl) ?_
      refine dG [(41,_),(7,_),(44,_)] [([(7,some (L 1 I (xW s1.1 ((s1.2:Int).toNat) (v4.take (((s1.1.length:Int).toNat) - ((s1.2:Int).toNat))))))],[(7,1)]),([(45,some (I ((min v4.length (((s1.1.length:Int).toNat) - ((s1.2:Int).toNat)):Nat):Int)))],[(45,0)])] ⟨rfl,rfl,rfl,trivial⟩ (fun E h => zQ.opE (zIr elt_22 h.2.1 (fun _ => (zBC.sub h.1)) (fun _ => (zEB.sub h.2.2.1 h.2.1 rfl hv4)) (zNA hv3) (zNB hv3) rfl) rfl) ?_
      refine zMH [(38,_),(45,_)] ?_
      refine zDx [(46,_)] ?_
      refine dNA xR ?_
      exact nB (eN h)
     ·refine CW.exit (xA ?_)
      exact eX h
    ·obtain ⟨rfl,hg⟩:=hq
     refine xB ?_
     refine nA (CW.ghost hg ?_)
     refine sR (zR ?_)
     refine yJ ?_
     refine RW.ghost (zL.tr 4 7 _ rfl rfl (zG (zK (Enc.clean (f:=I)))) rfl) ?_
     refine rN (CW.ret ?_)
     obtain rfl:=sI h
     exact rT
instance t_i:FI Tryz.prog 131 (∀ (x0:List Int) (x1:Int),FnK Tryz.prog 131 [T.ro (lV x0),I x1] (fun r:(List Int) => [lV r]) (fun _ => []) (f_i x0 x1)):=⟨Tryz.call131,fun x0 x1 => FnK.mk (u_i x0 x1)⟩
section
attribute [local irreducible] RW CW DK OkL Ok wA wG vV vW XS.post rng tV uQ ixO zX xQ vR yZ zH GTo zL FnC FnK uR qH Kp Lk BsL BuL RpL Bk Lc
instance (s5:(List Int) × Int) (v1:Int):LH (R:=(List Int)) (zRp s5 v1) [4,6,7,8,13] [] (fun s6 => [(3,L 1 I s6.1),(14,I s6.2)]) (.xe 2 [4,13] fun r5 => [(3,L 1 I r5)]):=⟨⟩
instance (x0:List Int):LH (R:=(List Int)) (zRq x0) [6,7] [] (fun s5 => [(3,L 1 I s5.1),(8,I s5.2)]) (.xe 0 [6,7] fun r7 => [(3,L 1 I r7)]):=⟨⟩
instance t_J:FI Tryz.prog 132 (∀ (x0:List Int),FnK Tryz.prog 132 [T.ro (lV x0)] (fun r:(List Int) => [lV r]) (fun _ => []) (f_J x0)):=⟨Tryz.call132,fun x0 => iF Tryz.func132⟩
end
end Go.Wk

namespace Go.Wk
open Go Go.Proofs Go.Ab
set_option maxRecDepth 100000
set_option maxHeartbeats 4000000
section
attribute [local irreducible] RW CW DK OkL Ok wA wG vV vW XS.post rng tV uQ ixO zX xQ vR yZ zH GTo zL FnC FnK uR qH Kp Lk BsL BuL RpL Bk Lc
instance (x0:SPr):LH (R:=(List ((List Int) × (List Int)))) (zRr x0) [0,14,15] [] (fun s1 => [(3,L 2 (A2 lV) s1.1),(16,I s1.2)]) (.xe 0 [14,15] fun r8 => [(3,L 2 (A2 lV) r8)]):=⟨⟩
instance (s7:(List ((List Int) × (List Int))) × Int) (v9:List (List Int)):LH (R:=(List ((List Int) × (List Int)))) (zRs s7 v9) [0,6,43,44,53,54] [] (fun s8 => [(3,L 2 (A2 lV) s8.1),(55,I s8.2)]) (.xe 4 [6,53,54] fun r18 => [(3,L 2 (A2 lV) r18)]):=⟨⟩
instance (x0:SPr):LH (R:=(List ((List Int) × (List Int)))) (zRt x0) [0,43] [] (fun s7 => [(3,L 2 (A2 lV) s7.1),(44,I s7.2)]) (.xe 2 [0,43] fun r20 => [(3,L 2 (A2 lV) r20)]):=⟨⟩
instance t_w:FI Tryz.prog 88 (∀ (x0:SPr),FnK Tryz.prog 88 [T.ro ((Pt xS) x0)] (fun r:(List ((List Int) × (List Int))) => [(L 2 (A2 lV)) r]) (fun _ => []) (f_w x0)):=⟨Tryz.call88,fun x0 => iF Tryz.func88⟩
end
theorem u_T (x0:Int) (x1:Int) (r:zV) (h:f_T x0 x1 = some r):FnC Tryz.prog 135 [I x0,I x1] [zAJ r] []:=by
 refine fB Tryz.func135 (fun St W w0 v => ?_)
 refine sR (tD ?_)
 refine rN (sR (zR ?_))
 refine zR ?_
 refine oP (zAc bld_52 [(0,.tmp 8),(1,.tmp 9)] [(0,.slot 8 (I x0)),(1,.slot 9 (I x1))] [.slot 8 (I x0),.slot 9 (I x1),.zero (L 1 lV [])] (pkS rfl (zG (Enc.clean (f:=I) _)) rfl (pkS rfl (zG (Enc.clean (f:=I) _)) rfl (pkZ rfl pkN))) (bqC (.slot _ _) (bqC (.slot _ _) bqN)) rfl) ?_
 refine tD ?_
 refine oP (vZ zMc rfl (wT rfl rfl) rfl rfl rfl rfl (zG (xU ⟨(Enc.clean (f:=I) _),(Enc.clean (f:=I) _),trivial,trivial⟩)) rfl) ?_
 refine rN (CW.seq (sR (zR ?_)))
 refine zR ?_
 refine rN (CW.block ?_)
 obtain ⟨r5,hr5,h⟩:=bd h
 refine CW.lp (s:=([],0)) (zRu x1) (fun s1:(List (List Int)) × Int => xK [(1,I x1),(4,T.ptr (T.agg [I 0,I 0,L 1 lV []])),(5,T.ptr (T.agg [I x0,I x1,L 1 lV s1.1])),(11,I x1),(12,I s1.2)]) (fun (r5:(List (List Int))) e E => e = .exit 0 ∧ zL ⟨St,W,w0,Tryz.f135.ntmps⟩ E (xK [(4,T.ptr (T.agg [I 0,I 0,L 1 lV []])),(5,T.ptr (T.agg [I x0,I x1,L 1 lV r5]))])) (.has ⟨rfl,rfl,rfl,rfl,rfl,trivial⟩) (fun s1 x h => ?_) hr5 (fun e E hq => ?_)
 refine sR (vH ?_)
 refine rN (CW.seq (cn h (fun hc h => ?_) (fun hc h => ?_)))
 refine CW.skip (nA (CW.seq (CW.block (sR (zR ?_)))))
 refine yJ ?_
 refine rN (sR (zR ?_))
 obtain ⟨m1,hm1,h⟩:=bd h
 refine oP (zAR (f:=I) (z:=0) elt_22 (rfl) hm1 rfl rfl rfl) ?_
 refine yJ ?_
 refine RW.ghost (zL.tr 7 16 _ rfl rfl (zG (zK (Enc.clean (f:=I)))) rfl) ?_
 refine rN (sR (zR ?_))
 refine zR ?_
 obtain ⟨v2,hv2,h⟩:=bd h
 refine zLa ?_
 refine oP (zIo zDM rfl rfl rfl (zM hv2 rfl) (kL hv2 rfl) rfl rfl) ?_
 refine rN (CW.region (zAU ?_))
 refine zBv ?_
 refine zR ?_
 refine RW.ghost (zL.tr 22 7 _ rfl rfl (zG (zK (Enc.clean (f:=I)))) rfl) ?_
 refine oP (zEh elt_23 [.tmp 22] [.slot 22 (L 1 I ((List.replicate m1 (0:Int)).set s1.2.toNat 1))] [(List.replicate m1 (0:Int)).set s1.2.toNat 1] lV ⟨.slot _ _,trivial⟩ (pkS rfl (zG (zK (Enc.clean (f:=I)))) rfl pkN) rfl rfl) ?_
 refine RW.ghost (zL.trq 21 5 [2,0] rfl rfl rfl (zG (zK (Enc.clean (f:=lV)))) rfl) ?_
 obtain ⟨v3,hv3,h⟩:=bd h
 refine oP (zAP (f:=lV) elt_23 hv3 rfl rfl rfl) ?_
 refine zAU ?_
 refine oP (zCR zMa rfl rfl rfl rfl rfl rfl (zG (zK (Enc.clean (f:=lV)))) rfl) ?_
 refine RW.nil ?_
 refine nB (nA (CW.region ?_))
 obtain ⟨v4,hv4,h⟩:=bd h
 refine uA ?_
 refine zR ?_
 refine RW.nil ?_
 exact eN h
 refine CW.exit (xA ?_)
 exact eX h
 obtain ⟨rfl,hg⟩:=hq
 refine xB ?_
 refine nA (CW.ghost hg ?_)
 refine sR (tJ ?_)
 refine RW.ghost (zL.trf 27 [2] 5 [2,0] _ _ rfl rfl rfl rfl rfl (zG (zK (Enc.clean (f:=lV)))) rfl) ?_
 refine oP (vZ zMc rfl (wT rfl rfl) rfl rfl rfl rfl (zG (xU ⟨(Enc.clean (f:=I) _),(Enc.clean (f:=I) _),(zK (Enc.clean (f:=lV))),trivial⟩)) rfl) ?_
 refine rN (CW.ret ?_)
 obtain rfl:=sI h
 exact ⟨_,zL.refl,⟨.inl rfl,[(4,[0],T.agg [I x0,I x1,L 1 lV r5])],⟨⟨rfl,rfl,rfl,(var_52.h _ rfl rfl).h⟩,trivial⟩,rfl,(by simp),(by simp),trivial⟩⟩
instance t_T:FI Tryz.prog 135 (∀ (x0:Int) (x1:Int),FnK Tryz.prog 135 [I x0,I x1] (fun r:zV => [zAJ r]) (fun _ => []) (f_T x0 x1)):=⟨Tryz.call135,fun x0 x1 => FnK.mk (u_T x0 x1)⟩
section
attribute [local irreducible] RW CW DK OkL Ok wA wG vV vW XS.post rng tV uQ ixO zX xQ vR yZ zH GTo zL FnC FnK uR qH Kp Lk BsL BuL RpL Bk Lc
instance t_aj:FI Tryz.prog 113 (∀ (x0:Int) (x1:Int),FnK Tryz.prog 113 [I x0,I x1] (fun r:Int => [I r]) (fun _ => []) (zGY x0 x1)):=⟨Tryz.call113,fun x0 x1 => iF Tryz.func113⟩
instance (x0:List Int) (x1:List Int) (x2:Int) (x3:Int):LH (R:=(List Int)) (zKw x0 x1 x2 x3) [1,2,3,10] [] (fun s1 => [(0,L 1 I s1.1),(11,I s1.2)]) (.xe 0 [1,2,3,10] fun r8 => [(0,L 1 I r8)]):=⟨⟩
instance t_v:FI Tryz.prog 69 (∀ (x0:List Int) (x1:List Int) (x2:Int) (x3:Int),FnK Tryz.prog 69 [L 1 I x0,T.ro (lV x1),I x2,I x3] (fun _:(List Int) => []) (fun r => [(0,lV r)]) (f_v x0 x1 x2 x3)):=⟨Tryz.call69,fun x0 x1 x2 x3 => iF Tryz.func69⟩
instance (x0:List Int) (x1:zV):LH (R:=(List Int)) (zKx x0 x1) [3,11,12] [] (fun s1 => [(5,L 1 I s1.1),(13,I s1.2)]) (.xe 0 [3,11,12] fun r6 => [(5,L 1 I r6)]):=⟨⟩
instance t_ak:FI Tryz.prog 56 (∀ (x0:List Int) (x1:zV),FnK Tryz.prog 56 [T.ro (lV x0),sE x1] (fun r:(List Int) => [lV r]) (fun _ => []) (zRv x0 x1)):=⟨Tryz.call56,fun x0 x1 => iF Tryz.func56⟩
instance:GHs Tryz.f136.results:=⟨⟩
instance:GH Tryz.f136.results 0 26 0 (.trq 21 5 [2,0]):=⟨⟩
instance:GH Tryz.f136.results 1 4 0 (.trf 29 2 5 [2,0]):=⟨⟩
instance (x0:zV) (x1:zV):LH (R:=zV) (zKy x0 x1) [3,4,14,15] [] (fun s1 => [(5,T.ptr (T.agg [I x0.Prime,I x1.xT,L 1 lV s1.1])),(16,I s1.2)]) (.xe 0 [3,14,15] fun r5 => [(5,T.ptr (T.agg [I x0.Prime,I x1.xT,L 1 lV r5]))]):=⟨⟩
instance t_aA:FI Tryz.prog 136 (∀ (x0:zV) (x1:zV),FnK Tryz.prog 136 [sE x0,sE x1] (fun r:zV => [zAJ r]) (fun _ => []) (zTb x0 x1)):=⟨Tryz.call136,fun x0 x1 => iF Tryz.func136⟩
instance (x0:zC) (x1:List Int):LH (R:=zV) (zRw x0 x1) [0,4,17,18] [] (fun s1 => [(5,T.ptr (T.agg [I s1.1,I s1.2.1,L 1 lV s1.2.2.1])),(19,I s1.2.2.2)]) (.xe 0 [0,17,18] fun r7 => [(5,T.ptr (T.agg [I r7.1,I r7.2.1,L 1 lV r7.2.2]))]):=⟨⟩
instance t_U:FI Tryz.prog 90 (∀ (x0:zC) (x1:List Int),FnK Tryz.prog 90 [T.ro ((Pt yB) x0),T.ro (lV x1)] (fun r:zV => [zAJ r]) (fun _ => []) (f_U x0 x1)):=⟨Tryz.call90,fun x0 x1 => iF Tryz.func90⟩
instance (x0:List (List Int)) (x1:List (List Int)):LH (R:=Bool) (zRx x0 x1) [1,2,15,16] [] (fun s1 => [(17,I s1)]) (.xs (.xe 0 [1,2,15,16] fun _ => []) .xr):=⟨⟩
instance t_a6:FI Tryz.prog 133 (∀ (x0:List (List Int)) (x1:List (List Int)),FnK Tryz.prog 133 [T.ro (lM x0),T.ro (lM x1),T.lit (.func (.func 134) #[] #[])] (fun r:Bool => [B r]) (fun _ => []) (zVz x0 x1)):=⟨Tryz.call133,fun x0 x1 => iF Tryz.func133⟩
instance t_bk:FI Tryz.prog 89 (∀ (x0:List (List Int)) (x1:List (List Int)),FnK Tryz.prog 89 [T.ro (lM x0),T.ro (lM x1)] (fun r:Bool => [B r]) (fun _ => []) (zTc x0 x1)):=⟨Tryz.call89,fun x0 x1 => iF Tryz.func89⟩
end
theorem u_D (x0:SPr) (x1:zC) (r:Bool) (h:f_D x0 x1 = some r):FnC Tryz.prog 52 [T.ro ((Pt xS) x0),T.ro ((Pt yB) x1)] [B r] []:=by
 refine fB Tryz.func52 (fun St W w0 v => ?_)
 refine sR (yJ ?_)
 refine rN (CW.seq (CW.seq ?_))
 obtain ⟨r1,hr1,h⟩:=bd h
 refine CW.casesB (!r1) (fun hc0 => ?_) (fun hc0 => ?_)
 have h:=cT hc0 h
 refine CW.dk ?_
 refine yN [(0,_)] ?_
 refine zBD [(9,_)] ?_
 refine zBo [(10,_)] ?_
 refine dC [(11,_)] Tryz.call83 (FnK.go (t_aW.h _) hr1) ?_
 refine dG [(12,_)] [([(13,some (B true))],[(13,0)])] ⟨rfl,trivial⟩ (fun E h => zQ.opE (zAQ hc0 (zA5 h.1 rfl)) rfl) ?_
 refine yN [(13,_)] ?_
 refine wX ?_
 refine wX ?_
 refine wX ?_
 refine wX ?_
 refine wX ?_
 refine wX ?_
 refine jL [(14,_)] ?_
 refine yN [(21,_)] ?_
 refine wX ?_
 refine wX ?_
 refine wX ?_
 refine wX ?_
 refine wX ?_
 refine wX ?_
 refine jL [(22,_)] ?_
 refine yN [(29,_)] ?_
 refine wX ?_
 refine wX ?_
 refine wX ?_
 refine wX ?_
 refine wX ?_
 refine wX ?_
 refine wX ?_
 refine wX ?_
 refine wX ?_
 refine wX ?_
 refine wX ?_
 refine jL [(30,_)] ?_
 refine dN ([] :: [0] :: [0,1] :: [0,1,2] :: [0,1,2,3] :: [0,1,2,3,4] :: [0,1,2,3,4,5] :: [0,1,2,3,4,5,6] :: [0,1,2,3,4,5,6,7] :: [0,1,2,3,4,5,6,7,8] :: [0,1,2,3,4,5,6,7,8,9] :: [0,1,2,3,4,5,6,7,8,9,10] :: [0,1,2,3,4,5,6,7,8,9,10,11] :: [0,1,2,3,4,5,6,7,8,9,10,11,12] :: [0,1,2,3,4,5,6,7,8,9,10,11,12,13] :: [0,1,2,3,4,5,6,7,8,9,10,11,12,13,14] :: [0,1,2,3,4,5,6,7,8,9,10,11,12,13,14,15] :: [0,1,2,3,4,5,6,7,8,9,10,11,12,13,14,15,16] :: [0,1,2,3,4,5,6,7,8,9,10,11,12,13,14,15,16,17] :: [0,1,2,3,4,5,6,7,8,9,10,11,12,13,14,15,16,17,18] :: [0,1,2,3,4,5,6,7,8,9,10,11,12,13,14,15,16,17,18,19] :: [0,1,2,3,4,5,6,7,8,9,10,11,12,13,14,15,16,17,18,19,20] :: [0,1,2,3,4,5,6,7,8,9,10,11,12,13,14,15,16,17,18,19,20,21] :: [0,1,2,3,4,5,6,7,8,9,10,11,12,13,14,15,16,17,18,19,20,21,22] :: [0,1,2,3,4,5,6,7,8,9,10,11,12,13,14,15,16,17,18,19,20,21,22,23] :: [0,1,2,3,4,5,6,7,8,9,10,11,12,13,14,15,16,17,18,19,20,21,22,23,24] :: [0,1,2,3,4,5,6,7,8,9,10,11,12,13,14,15,16,17,18,19,20,21,22,23,24,25] :: [0,1,2,3,4,5,6,7,8,9,10,11,12,13,14,15,16,17,18,19,20,21] :: [0,1,2,3,4,5,6,7,8,9,10,11,12,13,14,15,16,17,18,19,20,21,27] :: [0,1,2,3,4,5,6,7,8,9,10,11,12,13,14,15,16,17,18,19,20,21,27,28] :: [0,1,2,3,4,5,6,7,8,9,10,11,12,13,14,15,16,17,18,19,20,21,27,28,29] :: [0,1,2,3,4,5,6,7,8,9,10,11,12,13,14,15,16,17,18,19,20,21,27,28,29,30] :: [0,1,2,3,4,5,6,7,8,9,10,11,12,13,14,15,16,17,18,19,20,21,22,23,24,25,26,27,28,29,30,31] :: [0,1,2,3,4,5,6,7,8,9,10,11,12,13,14,15,16,17,18,19,20,21,22,23,24,25,26,27,28,29,30,31,32] :: []) xR ?_
 refine nA (CW.condT rfl ?_)
 refine CW.seq (CW.to [] trivial ?_)
 refine CW.region (yJ ?_)
 refine rN (CW.ret (rA ?_))
 obtain rfl:=sI h
 exact rT
 have h:=cF hc0 h
 obtain ⟨r2,hr2,h⟩:=bd h
 refine CW.casesB (!r2) (fun hc1 => ?_) (fun hc1 => ?_)
 have h:=cT hc1 h
 refine CW.dk ?_
 refine yN [(0,_)] ?_
 refine zBD [(9,_)] ?_
 refine zBo [(10,_)] ?_
 refine dC [(11,_)] Tryz.call83 (FnK.go (t_aW.h _) hr1) ?_
 refine dG [(12,_)] [([(13,some (B false))],[(13,0)])] ⟨rfl,trivial⟩ (fun E h => zQ.opE (zAQ hc0 (zA5 h.1 rfl)) rfl) ?_
 refine yN [(13,_)] ?_
 refine zLb [(1,_),(14,_)] ?_
 refine zCU [(15,_),(14,_)] ?_
 refine zFP [(16,_),(14,_)] ?_
 refine zFO [(17,_),(14,_)] ?_
 refine dG [(18,_),(14,_)] [([(19,some (B r2))],[(19,0)])] ⟨rfl,rfl,trivial⟩ (fun E h => zQ.guardE 5 false 14 (yV (xs:=[.tmp 18]) Tryz.call84 (FnK.go (t_aP.h _) hr2) ⟨(agC _ h.1 rfl rfl),trivial⟩ (wN (f:=B) inferInstance wL) rfl) rfl rfl h.2.1 rfl) ?_
 refine dG [(19,_),(14,_)] [([(20,some (B true))],[(20,0)])] ⟨rfl,rfl,trivial⟩ (fun E h => zQ.guardE 5 false 14 (zAQ hc1 (zA5 h.1 rfl)) rfl rfl h.2.1 rfl) ?_
 refine jL [(14,_),(20,_)] ?_
 refine yN [(21,_)] ?_
 refine wX ?_
 refine wX ?_
 refine wX ?_
 refine wX ?_
 refine wX ?_
 refine wX ?_
 refine jL [(22,_)] ?_
 refine yN [(29,_)] ?_
 refine wX ?_
 refine wX ?_
 refine wX ?_
 refine wX ?_
 refine wX ?_
 refine wX ?_
 refine wX ?_
 refine wX ?_
 refine wX ?_
 refine wX ?_
 refine wX ?_
 refine jL [(30,_)] ?_
 refine dN ([] :: [0] :: [0,1] :: [0,1,2] :: [0,1,2,3] :: [0,1,2,3,4] :: [0,1,2,3,4,5] :: [0,1,2,3,4,5,6] :: [0,1,2,3,4,5,6,7] :: [0,1,2,3,4,5,6,7,8] :: [0,1,2,3,4,5,6,7,8,9] :: [0,1,2,3,4,5,6,7,8,9,10] :: [0,1,2,3,4,5,6,7,8,9,10,11] :: [0,1,2,3,4,5,6,7,8,9,10,11,12] :: [0,1,2,3,4,5,6,7,8,9,10,11,12,13] :: [0,1,2,3,4,5,6,7,8,9,10,11,12,13,14] :: [0,1,2,3,4,5,6,7,8,9,10,11,12,13,14,15] :: [0,1,2,3,4,5,6,7,8,9,10,11,12,13,14,15,16] :: [0,1,2,3,4,5,6,7,8,9,10,11,12,13,14,15,16,17] :: [0,1,2,3,4,5,6,7,8,9,10,11,12,13,14,15,16,17,18] :: [0,1,2,3,4,5,6,7,8,9,10,11,12,13,14,15,16,17,18,19] :: [0,1,2,3,4,5,6,7,8,9,10,11,12,13,14,15,16,17,18,19,20] :: [0,1,2,3,4,5,6,7,8,9,10,11,12,13,14,15,16,17,18,19,20,21] :: [0,1,2,3,4,5,6,7,8,9,10,11,12,13,14,15,16,17,18,19,20,21,22] :: [0,1,2,3,4,5,6,7,8,9,10,11,12,13,14,15,16,17,18,19,20,21,22,23] :: [0,1,2,3,4,5,6,7,8,9,10,11,12,13,14,15,16,17,18,19,20,21,22,23,24] :: [0,1,2,3,4,5,6,7,8,9,10,11,12,13,14,15,16,17,18,19,20,21,22,23,24,25] :: [0,1,2,3,4,5,6,7,8,9,10,11,12,13,14,15,16,17,18,19,20,21] :: [0,1,2,3,4,5,6,7,8,9,10,11,12,13,14,15,16,17,18,19,20,21,27] :: [0,1,2,3,4,5,6,7,8,9,10,11,12,13,14,15,16,17,18,19,20,21,27,28] :: [0,1,2,3,4,5,6,7,8,9,10,11,12,13,14,15,16,17,18,19,20,21,27,28,29] :: [0,1,2,3,4,5,6,7,8,9,10,11,12,13,14,15,16,17,18,19,20,21,27,28,29,30] :: [0,1,2,3,4,5,6,7,8,9,10,11,12,13,14,15,16,17,18,19,20,21,22,23,24,25,26,27,28,29,30,31] :: [0,1,2,3,4,5,6,7,8,9,10,11,12,13,14,15,16,17,18,19,20,21,22,23,24,25,26,27,28,29,30,31,32] :: []) xR ?_
 refine nA (CW.condT rfl ?_)
 refine CW.seq (CW.to [] trivial ?_)
 refine CW.region (yJ ?_)
 refine rN (CW.ret (rA ?_))
 obtain rfl:=sI h
 exact rT
 have h:=cF hc1 h
 obtain ⟨r3,hr3,h⟩:=bd h
 refine CW.casesB (!r3) (fun hc2 => ?_) (fun hc2 => ?_)
 have h:=cT hc2 h
 refine CW.dk ?_
 refine yN [(0,_)] ?_
 refine zBD [(9,_)] ?_
 refine zBo [(10,_)] ?_
 refine dC [(11,_)] Tryz.call83 (FnK.go (t_aW.h _) hr1) ?_
 refine dG [(12,_)] [([(13,some (B false))],[(13,0)])] ⟨rfl,trivial⟩ (fun E h => zQ.opE (zAQ hc0 (zA5 h.1 rfl)) rfl) ?_
 refine yN [(13,_)] ?_
 refine zLb [(1,_),(14,_)] ?_
 refine zCU [(15,_),(14,_)] ?_
 refine zFP [(16,_),(14,_)] ?_
 refine zFO [(17,_),(14,_)] ?_
 refine dG [(18,_),(14,_)] [([(19,some (B r2))],[(19,0)])] ⟨rfl,rfl,trivial⟩ (fun E h => zQ.guardE 5 false 14 (yV (xs:=[.tmp 18]) Tryz.call84 (FnK.go (t_aP.h _) hr2) ⟨(agC _ h.1 rfl rfl),trivial⟩ (wN (f:=B) inferInstance wL) rfl) rfl rfl h.2.1 rfl) ?_
 refine dG [(19,_),(14,_)] [([(20,some (B false))],[(20,0)])] ⟨rfl,rfl,trivial⟩ (fun E h => zQ.guardE 5 false 14 (zAQ hc1 (zA5 h.1 rfl)) rfl rfl h.2.1 rfl) ?_
 refine jL [(14,_),(20,_)] ?_
 refine yN [(21,_)] ?_
 refine zLb [(1,_),(22,_)] ?_
 refine zCU [(23,_),(22,_)] ?_
 refine zFP [(24,_),(22,_)] ?_
 refine zFO [(25,_),(22,_)] ?_
 refine dG [(26,_),(22,_)] [([(27,some (B r3))],[(27,0)])] ⟨rfl,rfl,trivial⟩ (fun E h => zQ.guardE 13 false 22 (yV (xs:=[.tmp 26,.const _,.const _]) Tryz.call85 (FnK.go (t_aO.h _ _ _) hr3) ⟨(agC _ h.1 rfl rfl),⟨(agC _ rfl rfl rfl),⟨(agC _ rfl rfl rfl),trivial⟩⟩⟩ (wN (f:=B) inferInstance wL) rfl) rfl rfl h.2.1 rfl) ?_
 refine dG [(27,_),(22,_)] [([(28,some (B true))],[(28,0)])] ⟨rfl,rfl,trivial⟩ (fun E h => zQ.guardE 13 false 22 (zAQ hc2 (zA5 h.1 rfl)) rfl rfl h.2.1 rfl) ?_
 refine jL [(22,_),(28,_)] ?_
 refine yN [(29,_)] ?_
 refine wX ?_
 refine wX ?_
 refine wX ?_
 refine wX ?_
 refine wX ?_
 refine wX ?_
 refine wX ?_
 refine wX ?_
 refine wX ?_
 refine wX ?_
 refine wX ?_
 refine jL [(30,_)] ?_
 refine dN ([] :: [0] :: [0,1] :: [0,1,2] :: [0,1,2,3] :: [0,1,2,3,4] :: [0,1,2,3,4,5] :: [0,1,2,3,4,5,6] :: [0,1,2,3,4,5,6,7] :: [0,1,2,3,4,5,6,7,8] :: [0,1,2,3,4,5,6,7,8,9] :: [0,1,2,3,4,5,6,7,8,9,10] :: [0,1,2,3,4,5,6,7,8,9,10,11] :: [0,1,2,3,4,5,6,7,8,9,10,11,12] :: [0,1,2,3,4,5,6,7,8,9,10,11,12,13] :: [0,1,2,3,4,5,6,7,8,9,10,11,12,13,14] :: [0,1,2,3,4,5,6,7,8,9,10,11,12,13,14,15] :: [0,1,2,3,4,5,6,7,8,9,10,11,12,13,14,15,16] :: [0,1,2,3,4,5,6,7,8,9,10,11,12,13,14,15,16,17] :: [0,1,2,3,4,5,6,7,8,9,10,11,12,13,14,15,16,17,18] :: [0,1,2,3,4,5,6,7,8,9,10,11,12,13,14,15,16,17,18,19] :: [0,1,2,3,4,5,6,7,8,9,10,11,12,13,14,15,16,17,18,19,20] :: [0,1,2,3,4,5,6,7,8,9,10,11,12,13,14,15,16,17,18,19,20,21] :: [0,1,2,3,4,5,6,7,8,9,10,11,12,13,14,15,16,17,18,19,20,21,22] :: [0,1,2,3,4,5,6,7,8,9,10,11,12,13,14,15,16,17,18,19,20,21,22,23] :: [0,1,2,3,4,5,6,7,8,9,10,11,12,13,14,15,16,17,18,19,20,21,22,23,24] :: [0,1,2,3,4,5,6,7,8,9,10,11,12,13,14,15,16,17,18,19,20,21,22,23,24,25] :: [0,1,2,3,4,5,6,7,8,9,10,11,12,13,14,15,16,17,18,19,20,21] :: [0,1,2,3,4,5,6,7,8,9,10,11,12,13,14,15,16,17,18,19,20,21,27] :: [0,1,2,3,4,5,6,7,8,9,10,11,12,13,14,15,16,17,18,19,20,21,27,28] :: [0,1,2,3,4,5,6,7,8,9,10,11,12,13,14,15,16,17,18,19,20,21,27,28,29] :: [0,1,2,3,4,5,6,7,8,9,10,11,12,13,14,15,16,17,18,19,20,21,27,28,29,30] :: [0,1,2,3,4,5,6,7,8,9,10,11,12,13,14,15,16,17,18,19,20,21,22,23,24,25,26,27,28,29,30,31] :: [0,1,2,3,4,5,6,7,8,9,10,11,12,13,14,15,16,17,18,19,20,21,22,23,24,25,26,27,28,29,30,31,32] :: []) xR ?_
 refine nA (CW.condT rfl ?_)
 refine CW.seq (CW.to [] trivial ?_)
 refine CW.region (yJ ?_)
 refine rN (CW.ret (rA ?_))
 obtain rfl:=sI h
 exact rT
 have h:=cF hc2 h
 refine CW.dk ?_
 refine yN [(0,_)] ?_
 refine zBD [(9,_)] ?_
 refine zBo [(10,_)] ?_
 refine dC [(11,_)] Tryz.call83 (FnK.go (t_aW.h _) hr1) ?_
 refine dG [(12,_)] [([(13,some (B false))],[(13,0)])] ⟨rfl,trivial⟩ (fun E h => zQ.opE (zAQ hc0 (zA5 h.1 rfl)) rfl) ?_
 refine yN [(13,_)] ?_
 refine zLb [(1,_),(14,_)] ?_
 refine zCU [(15,_),(14,_)] ?_
 refine zFP [(16,_),(14,_)] ?_
 refine zFO [(17,_),(14,_)] ?_
 refine dG [(18,_),(14,_)] [([(19,some (B r2))],[(19,0)])] ⟨rfl,rfl,trivial⟩ (fun E h => zQ.guardE 5 false 14 (yV (xs:=[.tmp 18]) Tryz.call84 (FnK.go (t_aP.h _) hr2) ⟨(agC _ h.1 rfl rfl),trivial⟩ (wN (f:=B) inferInstance wL) rfl) rfl rfl h.2.1 rfl) ?_
 refine dG [(19,_),(14,_)] [([(20,some (B false))],[(20,0)])] ⟨rfl,rfl,trivial⟩ (fun E h => zQ.guardE 5 false 14 (zAQ hc1 (zA5 h.1 rfl)) rfl rfl h.2.1 rfl) ?_
 refine jL [(14,_),(20,_)] ?_
 refine yN [(21,_)] ?_
 refine zLb [(1,_),(22,_)] ?_
 refine zCU [(23,_),(22,_)] ?_
 refine zFP [(24,_),(22,_)] ?_
 refine zFO [(25,_),(22,_)] ?_
 refine dG [(26,_),(22,_)] [([(27,some (B r3))],[(27,0)])] ⟨rfl,rfl,trivial⟩ (fun E h => zQ.guardE 13 false 22 (yV (xs:=[.tmp 26,.const _,.const _]) Tryz.call85 (FnK.go (t_aO.h _ _ _) hr3) ⟨(agC _ h.1 rfl rfl),⟨(agC _ rfl rfl rfl),⟨(agC _ rfl rfl rfl),trivial⟩⟩⟩ (wN (f:=B) inferInstance wL) rfl) rfl rfl h.2.1 rfl) ?_
 refine dG [(27,_),(22,_)] [([(28,some (B false))],[(28,0)])] ⟨rfl,rfl,trivial⟩ (fun E h => zQ.guardE 13 false 22 (zAQ hc2 (zA5 h.1 rfl)) rfl rfl h.2.1 rfl) ?_
 refine jL [(22,_),(28,_)] ?_
 refine yN [(29,_)] ?_
 refine zLb [(1,_),(30,_)] ?_
 refine zCU [(31,_),(30,_)] ?_
 refine zFP [(32,_),(30,_)] ?_
 refine zFO [(33,_),(30,_)] ?_
 refine zP6 [(34,_),(30,_)] ?_
 refine zLb [(0,_),(30,_)] ?_
 refine zCU [(36,_),(30,_)] ?_
 refine zFP [(37,_),(30,_)] ?_
 refine zFO [(38,_),(30,_)] ?_
 refine zP6 [(39,_),(30,_)] ?_
 refine zVM [(35,_),(40,_),(30,_)] ?_
 refine jL [(30,_),(41,_)] ?_
 refine dN ([] :: [0] :: [0,1] :: [0,1,2] :: [0,1,2,3] :: [0,1,2,3,4] :: [0,1,2,3,4,5] :: [0,1,2,3,4,5,6] :: [0,1,2,3,4,5,6,7] :: [0,1,2,3,4,5,6,7,8] :: [0,1,2,3,4,5,6,7,8,9] :: [0,1,2,3,4,5,6,7,8,9,10] :: [0,1,2,3,4,5,6,7,8,9,10,11] :: [0,1,2,3,4,5,6,7,8,9,10,11,12] :: [0,1,2,3,4,5,6,7,8,9,10,11,12,13] :: [0,1,2,3,4,5,6,7,8,9,10,11,12,13,14] :: [0,1,2,3,4,5,6,7,8,9,10,11,12,13,14,15] :: [0,1,2,3,4,5,6,7,8,9,10,11,12,13,14,15,16] :: [0,1,2,3,4,5,6,7,8,9,10,11,12,13,14,15,16,17] :: [0,1,2,3,4,5,6,7,8,9,10,11,12,13,14,15,16,17,18] :: [0,1,2,3,4,5,6,7,8,9,10,11,12,13,14,15,16,17,18,19] :: [0,1,2,3,4,5,6,7,8,9,10,11,12,13,14,15,16,17,18,19,20] :: [0,1,2,3,4,5,6,7,8,9,10,11,12,13,14,15,16,17,18,19,20,21] :: [0,1,2,3,4,5,6,7,8,9,10,11,12,13,14,15,16,17,18,19,20,21,22] :: [0,1,2,3,4,5,6,7,8,9,10,11,12,13,14,15,16,17,18,19,20,21,22,23] :: [0,1,2,3,4,5,6,7,8,9,10,11,12,13,14,15,16,17,18,19,20,21,22,23,24] :: [0,1,2,3,4,5,6,7,8,9,10,11,12,13,14,15,16,17,18,19,20,21,22,23,24,25] :: [0,1,2,3,4,5,6,7,8,9,10,11,12,13,14,15,16,17,18,19,20,21] :: [0,1,2,3,4,5,6,7,8,9,10,11,12,13,14,15,16,17,18,19,20,21,27] :: [0,1,2,3,4,5,6,7,8,9,10,11,12,13,14,15,16,17,18,19,20,21,27,28] :: [0,1,2,3,4,5,6,7,8,9,10,11,12,13,14,15,16,17,18,19,20,21,27,28,29] :: [0,1,2,3,4,5,6,7,8,9,10,11,12,13,14,15,16,17,18,19,20,21,27,28,29,30] :: [0,1,2,3,4,5,6,7,8,9,10,11,12,13,14,15,16,17,18,19,20,21,22,23,24,25,26,27,28,29,30,31] :: [0,1,2,3,4,5,6,7,8,9,10,11,12,13,14,15,16,17,18,19,20,21,22,23,24,25,26,27,28,29,30,31,32] :: []) xR ?_
 refine nA (cn h (fun hc h => ?_) (fun hc h => ?_))
 refine CW.seq (CW.to [] trivial ?_)
 refine CW.region (yJ ?_)
 refine rN (CW.ret (rA ?_))
 obtain rfl:=sI h
 exact rT
 refine CW.skip (nA (CW.seq (CW.seq (CW.to [(0,T.ro ((Pt xS) x0)),(1,T.ro ((Pt yB) x1))] ⟨rfl,rfl,trivial⟩ ?_))))
 refine CW.region (zR ?_)
 refine zFM ?_
 refine zJ0 ?_
 refine qY ?_
 refine zAq ?_
 refine zR ?_
 refine rN (CW.block ?_)
 obtain ⟨r8,hr8,h⟩:=bd h
 refine CW.lp (s:=0) (zRy x1) (fun s1:Int => xK [(0,T.ro ((Pt xS) x0)),(1,T.ro ((Pt yB) x1)),(46,T.ro (lC x1.zI)),(47,I (x1.zI.length:Int)),(48,I s1)]) (fun (x:Unit ⊕ Bool) e E => match x with | (.inl r8) => e = .exit 0 ∧ zL ⟨St,W,w0,Tryz.f52.ntmps⟩ E (xK [(0,T.ro ((Pt xS) x0)),(1,T.ro ((Pt yB) x1))]) | (.inr r8) => e = .ret ∧ vW ⟨St,W,w0,Tryz.f52.ntmps⟩ Tryz.prog Tryz.f52.results [T.ro ((Pt xS) x0),T.ro ((Pt yB) x1)] [B r8] [] .ret E) (.has ⟨rfl,rfl,rfl,rfl,rfl,trivial⟩) (fun s1 x h => ?_) hr8 (fun e E hq => ?_)
 refine sR (vH ?_)
 refine rN (CW.seq (cn h (fun hc h => ?_) (fun hc h => ?_)))
 refine CW.skip (nA (CW.seq (CW.block (sR (zR ?_)))))
 obtain ⟨v4,hv4,h⟩:=bd h
 refine zC8 ?_
 refine qY ?_
 refine yJ ?_
 refine yJ ?_
 refine rN (sR (zR ?_))
 refine zAq ?_
 refine zR ?_
 refine zFM ?_
 refine zJ0 ?_
 refine qY ?_
 refine zMF ?_
 refine zR ?_
 refine RW.cases 60 _ rfl (fun hc => ?_) (fun hc => ?_)
 have h:=cT hc h
 refine sk2 ?_
 refine sk2 ?_
 refine sk2 ?_
 refine sk2 ?_
 refine sk2 ?_
 refine uB ?_
 refine rN (CW.condT rfl ?_)
 refine sR (yJ ?_)
 refine rN (CW.ret (rB ?_))
 exact rA (eX h)
 have h:=cF hc h
 refine zBu ?_
 refine zBu ?_
 obtain ⟨r5,hr5,h⟩:=bd h
 refine RW.cons (zQ.guard 7 false 60 (sQ (xs:=[.tmp 61,.tmp 62]) Tryz.call87 (FnK.go (t_aX.h _ _) hr5) (afC rfl rfl (afC rfl rfl afN)) rfl ⟨(xU ⟨(Enc.clean (f:=I) _),(Enc.clean (f:=I) _),trivial,trivial⟩),trivial⟩ rfl rfl)) ?_
 obtain ⟨r6,hr6,h⟩:=bd h
 refine RW.cons (zQ.guard 7 false 60 (yV (xs:=[.tmp 63]) Tryz.call86 (FnK.go (t_al.h _) hr6) ⟨(agC _ rfl rfl rfl),trivial⟩ (wN (f:=B) inferInstance wL) rfl)) ?_
 refine zTN ?_
 refine uB ?_
 refine rN (cn h (fun hc h => ?_) (fun hc h => ?_))
 refine sR (yJ ?_)
 refine rN (CW.ret (rB ?_))
 exact rA (eX h)
 refine CW.skip (nB (nA (CW.region ?_)))
 obtain ⟨v7,hv7,h⟩:=bd h
 refine uA ?_
 refine zR ?_
 refine RW.nil ?_
 exact eN h
 refine CW.exit (xA ?_)
 exact eX h
 rcases r8 with r8 | r8
 obtain ⟨rfl,hg⟩:=hq
 refine xB ?_
 refine nA (CW.ghost hg ?_)
 refine CW.seq (sR (zR ?_))
 obtain ⟨r9,hr9,h⟩:=bd h
 refine cA Tryz.call88 (FnK.go (t_w.h _) hr9) ?_
 refine RW.ghost (zL.frz 69 (k:=2) (f:=(A2 lV)) (g:=(A2 lV)) r9 rfl inferInstance) ?_
 refine zAq ?_
 refine zR ?_
 refine rN (CW.block ?_)
 obtain ⟨r15,hr15,h⟩:=bd h
 refine CW.lp (s:=0) (zRz x1 r9) (fun s3:Int => xK [(1,T.ro ((Pt yB) x1)),(69,T.ro ((L 2 (A2 lV)) r9)),(70,I (r9.length:Int)),(71,I s3)]) (fun (x:Unit ⊕ Bool) e E => match x with | (.inl r15) => e = .exit 2 ∧ zL ⟨St,W,w0,Tryz.f52.ntmps⟩ E (xK []) | (.inr r15) => e = .ret ∧ vW ⟨St,W,w0,Tryz.f52.ntmps⟩ Tryz.prog Tryz.f52.results [T.ro ((Pt xS) x0),T.ro ((Pt yB) x1)] [B r15] [] .ret E) (.has ⟨rfl,rfl,rfl,rfl,trivial⟩) (fun s3 x h => ?_) hr15 (fun e E hq => ?_)
 refine sR (vH ?_)
 refine rN (CW.seq (cn h (fun hc h => ?_) (fun hc h => ?_)))
 refine CW.skip (nA (CW.seq (CW.block (sR ?_))))
 obtain ⟨v10,hv10,h⟩:=bd h
 refine zC8 ?_
 refine qY ?_
 refine tD ?_
 refine oP (vZ zNz rfl (wT rfl rfl) rfl rfl rfl rfl (zG (xU ⟨trivial,trivial,trivial⟩)) rfl) ?_
 refine rN (CW.seq ?_)
 obtain ⟨r11,hr11,h⟩:=bd h
 obtain ⟨r12,hr12,h⟩:=bd h
 obtain ⟨r13,hr13,h⟩:=bd h
 refine CW.dk ?_
 refine yN [(1,_)] ?_
 refine dG [(8,_)] [([(76,some (T.addr 8 [0,0]))],[(76,0)])] ⟨rfl,trivial⟩ (fun E h => zQ.opE (zMB 0 arr_108 (wT h.1 rfl) rfl rfl rfl) rfl) ?_
 refine sW [(76,_),(8,_)] ?_
 refine dC [(75,_),(77,_)] Tryz.call90 (FnK.go (t_U.h _ _) hr11) ?_
 refine dG [(78,_)] [([(79,some (T.same 78 [2]))],[(79,0)])] ⟨rfl,trivial⟩ (fun E h => zQ.opE (zPp fld_52_2 (zE2 rfl rfl) h.1 rfl rfl rfl) rfl) ?_
 refine yN [(1,_)] ?_
 refine dG [(8,_)] [([(81,some (T.addr 8 [1,0]))],[(81,0)])] ⟨rfl,trivial⟩ (fun E h => zQ.opE (zMB 1 arr_108 (wT h.1 rfl) rfl rfl rfl) rfl) ?_
 refine sW [(81,_),(8,_)] ?_
 refine dC [(80,_),(82,_)] Tryz.call90 (FnK.go (t_U.h _ _) hr12) ?_
 refine dG [(83,_)] [([(84,some (T.same 83 [2]))],[(84,0)])] ⟨rfl,trivial⟩ (fun E h => zQ.opE (zPp fld_52_2 (zE2 rfl rfl) h.1 rfl rfl rfl) rfl) ?_
 refine dC [(79,_),(78,_),(84,_),(83,_)] Tryz.call89 (FnK.go (t_bk.h _ _) hr13) ?_
 refine zP7 [(85,_)] ?_
 refine dNA xR ?_
 refine nA (cn h (fun hc h => ?_) (fun hc h => ?_))
 refine sR (yJ ?_)
 refine rN (CW.ret (rB ?_))
 exact rA (eX h)
 refine CW.skip (nB (nA (CW.region ?_)))
 obtain ⟨v14,hv14,h⟩:=bd h
 refine uA ?_
 refine zR ?_
 refine RW.nil ?_
 exact eN h
 refine CW.exit (xA ?_)
 exact eX h
 rcases r15 with r15 | r15
 obtain ⟨rfl,hg⟩:=hq
 refine xB ?_
 refine nA (CW.ghost hg ?_)
 refine sR (yJ ?_)
 refine rN (CW.ret ?_)
 obtain rfl:=sI h
 exact rT
 obtain ⟨rfl,hq⟩:=hq
 refine rB ?_
 refine rA ?_
 obtain rfl:=sI h
 exact hq
 obtain ⟨rfl,hq⟩:=hq
 refine rB ?_
 refine rA ?_
 obtain rfl:=sI h
 exact hq
instance t_D:FI Tryz.prog 52 (∀ (x0:SPr) (x1:zC),FnK Tryz.prog 52 [T.ro ((Pt xS) x0),T.ro ((Pt yB) x1)] (fun r:Bool => [B r]) (fun _ => []) (f_D x0 x1)):=⟨Tryz.call52,fun x0 x1 => FnK.mk (u_D x0 x1)⟩
section
attribute [local irreducible] RW CW DK OkL Ok wA wG vV vW XS.post rng tV uQ ixO zX xQ vR yZ zH GTo zL FnC FnK uR qH Kp Lk BsL BuL RpL Bk Lc
instance t_bt:FI Tryz.prog 91 (∀ (x0:SPr),FnK Tryz.prog 91 [T.ro ((Pt xS) x0)] (fun r:Int => [I r]) (fun _ => []) (zTn x0)):=⟨Tryz.call91,fun x0 => iF Tryz.func91⟩
instance (x0:zC) (x1:List (List Int)):LH (R:=Bool) (zNy x0 x1) [0,7,8] [] (fun s1 => [(9,I s1)]) (.xs (.xe 0 [0,7,8] fun _ => []) .xr):=⟨⟩
instance t_a2:FI Tryz.prog 92 (∀ (x0:zC) (x1:List (List Int)),FnK Tryz.prog 92 [T.ro ((Pt yB) x0),T.ro (lM x1)] (fun r:Bool => [B r]) (fun _ => []) (zV4 x0 x1)):=⟨Tryz.call92,fun x0 x1 => iF Tryz.func92⟩
instance t_bx:FI Tryz.prog 53 (∀ (x0:SPr) (x1:zC) (x2:List (List Int)),FnK Tryz.prog 53 [T.ro ((Pt xS) x0),T.ro ((Pt yB) x1),T.ro (lM x2)] (fun r:Bool => [B r]) (fun _ => []) (zTs x0 x1 x2)):=⟨Tryz.call53,fun x0 x1 x2 => iF Tryz.func53⟩
end
theorem u_y (x0:List Int) (r:SPr) (h:f_y x0 = some r):FnC Tryz.prog 137 [T.ro (lV x0)] [xS r] []:=by
 refine fB Tryz.func137 (fun St W w0 v => ?_)
 refine sR (tD ?_)
 refine rN (sR (zR ?_))
 refine zAq ?_
 refine yJ ?_
 refine rN (sR (zR ?_))
 obtain ⟨r1,hr1,h⟩:=bd h
 refine cA Tryz.call114 (FnK.go (t_x.h _) hr1) ?_
 refine oP (zAc bld_34 [(0,.tmp 11)] [(0,.slot 11 (L 1 I r1))] [.slot 11 (L 1 I r1),.zero (L 1 lV []),.zero (L 1 lM [])] (pkS rfl (zG (zK (Enc.clean (f:=I)))) rfl (pkZ rfl (pkZ rfl pkN))) (bqC (.slot _ _) bqN) rfl) ?_
 refine tD ?_
 refine oP (vZ zE1 rfl (wT rfl rfl) rfl rfl rfl rfl (zG (xU ⟨(zK (Enc.clean (f:=I))),trivial,trivial,trivial⟩)) rfl) ?_
 refine rN (CW.seq (sR (zR ?_)))
 refine zR ?_
 refine rN (CW.block ?_)
 obtain ⟨r11,hr11,h⟩:=bd h
 refine CW.lp (s:=([],[],0)) (zOu x0) (fun s5:(List (List Int)) × (List (List (List Int))) × Int => xK [(2,T.ptr (T.agg [L 1 I [],L 1 lV [],L 1 lM []])),(3,I (x0.length:Int)),(4,T.ptr (T.agg [L 1 I r1,L 1 lV s5.1,L 1 lM s5.2.1])),(13,I (x0.length:Int)),(14,I s5.2.2)]) (fun (r11:((List (List Int)) × (List (List (List Int))))) e E => e = .exit 0 ∧ zL ⟨St,W,w0,Tryz.f137.ntmps⟩ E (xK [(2,T.ptr (T.agg [L 1 I [],L 1 lV [],L 1 lM []])),(4,T.ptr (T.agg [L 1 I r1,L 1 lV r11.1,L 1 lM r11.2]))])) (.has ⟨rfl,rfl,rfl,rfl,rfl,trivial⟩) (fun s5 x h => ?_) hr11 (fun e E hq => ?_)
 refine sR (vH ?_)
 refine rN (CW.seq (cn h (fun hc h => ?_) (fun hc h => ?_)))
 refine CW.skip (nA (CW.seq (CW.block (sR (zR ?_)))))
 refine yJ ?_
 refine rN (CW.seq ?_)
 obtain ⟨m2,hm2,h⟩:=bd h
 obtain ⟨v3,hv3,h⟩:=bd h
 refine CW.dk ?_
 refine zA8 [(4,_)] ?_
 refine sW [(17,_),(4,_)] ?_
 refine yN [(3,_)] ?_
 refine dG [(19,_)] [([(20,some (L 1 I (List.replicate m2 (0:Int))))],[(20,0)])] ⟨rfl,trivial⟩ (fun E h => zQ.opE (zAR (f:=I) (z:=0) elt_22 (rfl) hm2 h.1 h.1 rfl) rfl) ?_
 refine dG [(20,_)] [([(21,some (L 1 lV [List.replicate m2 (0:Int)])),(20,some (T.same 21 [0]))],[(21,0),(20,1)])] ⟨rfl,trivial⟩ (fun E h => zQ.opE (zEh elt_23 [.tmp 20] [.slot 20 (L 1 I (List.replicate m2 (0:Int)))] [List.replicate m2 (0:Int)] lV ⟨.slot _ _,trivial⟩ (pkS h.1 (zG (zK (Enc.clean (f:=I)))) rfl pkN) rfl rfl) rfl) ?_
 refine dG [(18,T.same 4 [1,0]),(4,T.ptr (T.agg [L 1 I r1,L 1 lV s5.1,L 1 lM s5.2.1])),(21,L 1 lV [List.replicate m2 (0:Int)])] [([(18,some (L 1 lV s5.1)),(4,some (T.ptr (T.agg [L 1 I r1,T.any,L 1 lM s5.2.1])))],[(18,1),(4,3)]),([(22,some (L 1 lV v3)),(18,some T.any),(21,some T.any)],[(22,0),(18,1),(21,1)])] ⟨rfl,rfl,rfl,trivial⟩ (fun E h => zQ.gh (zL.trq 18 4 [1,0] h.1 h.2.1 rfl (zG (zK (Enc.clean (f:=lV)))) rfl) <| zQ.opE (zAP (f:=lV) elt_23 hv3 rfl (zC5 h.2.2.1) rfl) rfl) ?_
 refine zA8 [(4,_)] ?_
 refine dG [(23,_),(4,_),(22,_)] [([(4,some (T.ptr (T.agg [L 1 I r1,L 1 lV v3,L 1 lM s5.2.1]))),(22,some (T.same 4 [1,0]))],[(4,2),(22,1)])] ⟨rfl,rfl,rfl,trivial⟩ (fun E h => zQ.opE (zCR zMa rfl h.1 h.2.1 rfl rfl h.2.2.1 (zG (zK (Enc.clean (f:=lV)))) rfl) rfl) ?_
 refine dNA xR ?_
 refine nA (sR (oP (zC4 1 rfl) ?_))
 refine rN (CW.seq (sR (zR ?_)))
 obtain ⟨v4,hv4,h⟩:=bd h
 refine uA ?_
 refine yJ ?_
 refine rN (CW.block ?_)
 obtain ⟨r8,hr8,h⟩:=bd h
 refine CW.lp (s:=([],v4)) (zOt x0) (fun s6:(List (List Int)) × Int => xK [(2,T.ptr (T.agg [L 1 I [],L 1 lV [],L 1 lM []])),(3,I (x0.length:Int)),(4,T.ptr (T.agg [L 1 I r1,L 1 lV v3,L 1 lM s5.2.1])),(6,L 1 lV s6.1),(7,I s6.2),(13,I (x0.length:Int)),(14,I s5.2.2)]) (fun (r8:(List (List Int))) e E => e = .exit 2 ∧ zL ⟨St,W,w0,Tryz.f137.ntmps⟩ E (xK [(2,T.ptr (T.agg [L 1 I [],L 1 lV [],L 1 lM []])),(3,I (x0.length:Int)),(4,T.ptr (T.agg [L 1 I r1,L 1 lV v3,L 1 lM s5.2.1])),(6,L 1 lV r8),(13,I (x0.length:Int)),(14,I s5.2.2)])) (.has ⟨rfl,rfl,rfl,rfl,rfl,rfl,rfl,trivial⟩) (fun s6 x h => ?_) hr8 (fun e E hq => ?_)
 refine CW.seq (sR (zR ?_))
 refine zR ?_
 refine vH ?_
 refine rN (cn h (fun hc h => ?_) (fun hc h => ?_))
 refine CW.skip (nA (CW.seq (CW.block (CW.region (zR ?_)))))
 refine zR ?_
 refine zR ?_
 obtain ⟨r5,hr5,h⟩:=bd h
 refine cA Tryz.call122 (FnK.go (t_az.h _ _) hr5) ?_
 refine oP (zEh elt_23 [.tmp 34] [.slot 34 (L 1 I r5)] [r5] lV ⟨.slot _ _,trivial⟩ (pkS rfl (zG (zK (Enc.clean (f:=I)))) rfl pkN) rfl rfl) ?_
 refine RW.ghost (zL.tr 31 6 _ rfl rfl (zG (zK (Enc.clean (f:=lV)))) rfl) ?_
 obtain ⟨v6,hv6,h⟩:=bd h
 refine oP (zAP (f:=lV) elt_23 hv6 rfl rfl rfl) ?_
 refine yJ ?_
 refine RW.ghost (zL.tr 6 36 _ rfl rfl (zG (zK (Enc.clean (f:=lV)))) rfl) ?_
 refine RW.nil ?_
 refine nB (nA (CW.region (zR ?_)))
 obtain ⟨v7,hv7,h⟩:=bd h
 refine uA ?_
 refine yJ ?_
 refine RW.nil ?_
 exact eN h
 refine CW.exit (xA ?_)
 exact eX h
 obtain ⟨rfl,hg⟩:=hq
 refine xB ?_
 refine nA (CW.ghost hg ?_)
 refine CW.region (zAU ?_)
 refine zBv ?_
 refine zR ?_
 refine RW.ghost (zL.tr 39 6 _ rfl rfl (zG (zK (Enc.clean (f:=lV)))) rfl) ?_
 refine oP (zEh elt_24 [.tmp 39] [.slot 39 (L 1 lV r8)] [r8] lM ⟨.slot _ _,trivial⟩ (pkS rfl (zG (zK (Enc.clean (f:=lV)))) rfl pkN) rfl rfl) ?_
 refine RW.ghost (zL.trq 38 4 [2,0] rfl rfl rfl (zG (zK (Enc.clean (f:=lM)))) rfl) ?_
 obtain ⟨v9,hv9,h⟩:=bd h
 refine oP (zAP (f:=lM) elt_24 hv9 rfl rfl rfl) ?_
 refine zAU ?_
 refine oP (zCR zRY rfl rfl rfl rfl rfl rfl (zG (zK (Enc.clean (f:=lM)))) rfl) ?_
 refine RW.nil ?_
 refine nB (nA (CW.region ?_))
 obtain ⟨v10,hv10,h⟩:=bd h
 refine uA ?_
 refine zR ?_
 refine RW.nil ?_
 exact eN h
 refine CW.exit (xA ?_)
 exact eX h
 obtain ⟨rfl,hg⟩:=hq
 refine xB ?_
 refine nA (CW.ghost hg ?_)
 refine sR (tJ ?_)
 refine RW.ghost (zL.trf 44 [0] 4 [0,0] _ _ rfl rfl rfl rfl rfl (zG (zK (Enc.clean (f:=I)))) rfl) ?_
 refine RW.ghost (zL.trf 44 [1] 4 [1,0] _ _ rfl rfl rfl rfl rfl (zG (zK (Enc.clean (f:=lV)))) rfl) ?_
 refine RW.ghost (zL.trf 44 [2] 4 [2,0] _ _ rfl rfl rfl rfl rfl (zG (zK (Enc.clean (f:=lM)))) rfl) ?_
 refine oP (vZ zE1 rfl (wT rfl rfl) rfl rfl rfl rfl (zG (xU ⟨(zK (Enc.clean (f:=I))),(zK (Enc.clean (f:=lV))),(zK (Enc.clean (f:=lM))),trivial⟩)) rfl) ?_
 refine rN (CW.ret ?_)
 obtain rfl:=sI h
 exact ⟨_,zL.refl,⟨.inl rfl,[(2,[0],T.agg [L 1 I r1,L 1 lV r11.1,L 1 lM r11.2])],⟨⟨rfl,rfl,rfl,(var_34.h _ rfl rfl).h⟩,trivial⟩,rfl,(by simp),(by simp),trivial⟩⟩
instance t_y:FI Tryz.prog 137 (∀ (x0:List Int),FnK Tryz.prog 137 [T.ro (lV x0)] (fun r:SPr => [xS r]) (fun _ => []) (f_y x0)):=⟨Tryz.call137,fun x0 => FnK.mk (u_y x0)⟩
theorem zXY (x1:Int) (r:(List Int)) (h:zR0 x1 = some r):FnC Tryz.prog 74 [T.lit (.slice none 0 0),I x1] [lV r] []:=by
 refine fB Tryz.func74 (fun St W w0 v => ?_)
 refine sR (oP (zC4 1 rfl) ?_)
 refine rN (CW.seq (sR (zR ?_)))
 refine vH ?_
 refine rN (cn h (fun hc h => ?_) (fun hc h => ?_))
 ·refine CW.region ?_
  cases h
 ·refine CW.skip (nA (CW.seq (sR (zR ?_))))
  refine zR ?_
  refine oP (zJs Tryz.underlying22 rfl rfl) ?_
  refine zR ?_
  refine oP (zJr Tryz.underlying22 rfl rfl) ?_
  obtain ⟨v1,hv1,h⟩:=bd h
  refine zP3 ?_
  obtain ⟨v2,hv2,h⟩:=bd h
  refine zP3 ?_
  refine yJ ?_
  refine rN (sR (zR ?_))
  refine zTO ?_
  refine rN (cn h (fun hc h => ?_) (fun hc h => ?_))
  ·refine CW.region (zR ?_)
   refine zR ?_
   refine oP (zJs Tryz.underlying22 rfl rfl) ?_
   refine oP (zSs elt_22 rfl rfl rfl) ?_
   refine zR ?_
   obtain ⟨v3,hv3,h⟩:=bd h
   refine oP (zKW (f:=I) (z:=0) elt_22 Tryz.underlying3 (rfl) hv3 rfl rfl rfl) ?_
   refine zR ?_
   refine oP (zJr Tryz.underlying22 rfl rfl) ?_
   obtain ⟨v4,hv4,h⟩:=bd h
   refine oP (zTJ (f:=I) elt_22 hv4 rfl rfl (.inl rfl) rfl) ?_
   refine yJ ?_
   refine RW.ghost (zL.tr 0 25 _ rfl rfl (zG (zK (Enc.clean (f:=I)))) rfl) ?_
   refine rN (sR (zR ?_))
   refine yJ ?_
   refine RW.ghost (zL.tr 4 0 _ rfl rfl (zG (zK (Enc.clean (f:=I)))) rfl) ?_
   refine rN (CW.ret ?_)
   obtain rfl:=sI h
   exact rT
  ·refine CW.skip (nA (sR (zR ?_)))
   refine yJ ?_
   refine rN (CW.ghost (zL.nil 4 1 rfl) ?_)
   refine CW.ret ?_
   obtain rfl:=sI h
   exact rT
instance t_a7:FI Tryz.prog 74 (∀ (x1:Int),FnK Tryz.prog 74 [T.lit (.slice none 0 0),I x1] (fun r:(List Int) => [lV r]) (fun _ => []) (zR0 x1)):=⟨Tryz.call74,fun x1 => FnK.mk (zXY x1)⟩
section
attribute [local irreducible] RW CW DK OkL Ok wA wG vV vW XS.post rng tV uQ ixO zX xQ vR yZ zH GTo zL FnC FnK uR qH Kp Lk BsL BuL RpL Bk Lc
instance (x0:List (List Int)):LH (R:=(List Int)) (zR1 x0) [0,9,10] [] (fun s1 => [(3,I s1.1),(11,I s1.2)]) (.xe 0 [9,10] fun r4 => [(3,I r4)]):=⟨⟩
instance (x0:List (List Int)):LH (R:=(List Int)) (zR2 x0) [25,26] [] (fun s3 => [(6,L 1 I s3.1),(27,I s3.2)]) (.xe 2 [25,26] fun r9 => [(6,L 1 I r9)]):=⟨⟩
instance t_r:FI Tryz.prog 40 (∀ (x0:List (List Int)),FnK Tryz.prog 40 [T.ro (lM x0)] (fun r:(List Int) => [lV r]) (fun _ => []) (f_r x0)):=⟨Tryz.call40,fun x0 => iF Tryz.func40⟩
end
theorem zXZ (x0:List Int) (x1:Int) (x2:Int) (r:(List Int)) (h:zR3 x0 x1 x2 = some r):FnC Tryz.prog 138 [T.ro (lV x0),I x1,I x2] [lV r] []:=by
 refine fB Tryz.func138 (fun St W w0 v => ?_)
 refine sR (oP (zC4 1 rfl) ?_)
 refine rN (CW.seq ?_)
 obtain ⟨m1,hm1,h⟩:=bd h
 obtain ⟨m2,hm2,h⟩:=bd h
 obtain ⟨r3,hr3,h⟩:=bd h
 refine CW.dk ?_
 refine yN [(1,_)] ?_
 refine dG [(7,_)] [([(8,some (L 1 I (List.replicate m1 (0:Int))))],[(8,0)])] ⟨rfl,trivial⟩ (fun E h => zQ.opE (zAR (f:=I) (z:=0) elt_22 (rfl) hm1 h.1 h.1 rfl) rfl) ?_
 refine yN [(0,_)] ?_
 refine yN [(2,_)] ?_
 refine dG [(10,_)] [([(11,some (L 1 I (List.replicate m2 (0:Int))))],[(11,0)])] ⟨rfl,trivial⟩ (fun E h => zQ.opE (zAR (f:=I) (z:=0) elt_22 (rfl) hm2 h.1 h.1 rfl) rfl) ?_
 refine dG [(8,L 1 I (List.replicate m1 (0:Int))),(11,L 1 I (List.replicate m2 (0:Int))),(9,T.ro (lV x0))] [([(8,some (T.ro (lV (List.replicate m1 (0:Int)))))],[(8,1)]),([(11,some (T.ro (lV (List.replicate m2 (0:Int)))))],[(11,1)]),([(12,some (L 1 (Ro lV) [List.replicate m1 (0:Int),x0,List.replicate m2 (0:Int)]))],[(12,0)])] ⟨rfl,rfl,rfl,trivial⟩ (fun E h => zQ.gh (zL.frz 8 (k:=1) (f:=I) (g:=I) (List.replicate m1 (0:Int)) h.1 inferInstance) <| zQ.gh (zL.frz 11 (k:=1) (f:=I) (g:=I) (List.replicate m2 (0:Int)) (zC5 h.2.1) inferInstance) <| zQ.opE (zEh elt_23 [.tmp 8,.tmp 9,.tmp 11] [.slot 8 (T.ro (lV (List.replicate m1 (0:Int)))),.slot 9 (T.ro (lV x0)),.slot 11 (T.ro (lV (List.replicate m2 (0:Int))))] [List.replicate m1 (0:Int),x0,List.replicate m2 (0:Int)] (Ro lV) ⟨.slot _ _,.slot _ _,.slot _ _,trivial⟩ (pkS (zC5 rfl) (zG trivial) rfl (pkS (zC5 (zC5 h.2.2.1)) (zG trivial) rfl (pkS rfl (zG trivial) rfl pkN))) rfl rfl) rfl) ?_
 refine dC [(12,_)] Tryz.call40 (FnK.go (t_r.h _) hr3) ?_
 refine zDx [(13,_)] ?_
 refine dNA xR ?_
 refine nA (CW.ghost (zL.tr 6 13 _ rfl rfl (zG (zK (Enc.clean (f:=I)))) rfl) ?_)
 refine CW.ret ?_
 obtain rfl:=sI h
 exact rT
instance t_aZ:FI Tryz.prog 138 (∀ (x0:List Int) (x1:Int) (x2:Int),FnK Tryz.prog 138 [T.ro (lV x0),I x1,I x2] (fun r:(List Int) => [lV r]) (fun _ => []) (zR3 x0 x1 x2)):=⟨Tryz.call138,fun x0 x1 x2 => FnK.mk (zXZ x0 x1 x2)⟩
theorem u_j (x0:SPr) (x1:zC) (x2:List (List Int)) (r:SPr) (h:f_j x0 x1 x2 = some r):FnC Tryz.prog 94 [T.ro ((Pt xS) x0),T.ro ((Pt yB) x1),T.ro (lM x2)] [xS r] []:=by
 refine fB Tryz.func94 (fun St W w0 v => ?_)
 refine sR (tD ?_)
 refine rN (CW.seq (CW.dk ?_))
 refine yN [(0,_)] ?_
 refine zBD [(18,_)] ?_
 refine zMI [(19,_)] ?_
 refine zBo [(20,_)] ?_
 refine zLc [(21,_)] ?_
 refine yN [(1,_)] ?_
 refine zBD [(23,_)] ?_
 refine zMI [(24,_)] ?_
 refine zBo [(25,_)] ?_
 refine zDx [(22,_)] ?_
 refine zDx [(26,_)] ?_
 refine dNA xR ?_
 refine nA (CW.seq ?_)
 obtain ⟨r1,hr1,h⟩:=bd h
 obtain ⟨r2,hr2,h⟩:=bd h
 obtain ⟨v3,hv3,h⟩:=bd h
 obtain ⟨r4,hr4,h⟩:=bd h
 refine CW.dk ?_
 refine yN [(0,_)] ?_
 refine zBD [(27,_)] ?_
 refine zMI [(28,_)] ?_
 refine zBo [(29,_)] ?_
 refine dC [(30,_)] Tryz.call114 (FnK.go (t_x.h _) hr1) ?_
 refine yN [(1,_)] ?_
 refine zBD [(32,_)] ?_
 refine zMI [(33,_)] ?_
 refine zBo [(34,_)] ?_
 refine dG [(35,_)] [([(36,some (L 1 I [x1.Prime]))],[(36,0)])] ⟨rfl,trivial⟩ (fun E h => zQ.opE (zEh elt_22 [.tmp 35] [.slot 35 (I x1.Prime)] [x1.Prime] I ⟨.slot _ _,trivial⟩ (pkS h.1 (zG (Enc.clean (f:=I) _)) rfl pkN) rfl rfl) rfl) ?_
 refine yN [(8,_)] ?_
 refine dC [(36,_),(37,_)] Tryz.call131 (FnK.go (t_i.h _ _) hr2) ?_
 refine dG [(31,_),(38,_)] [([(39,some (L 1 I v3)),(31,some T.any)],[(39,0),(31,1)])] ⟨rfl,rfl,trivial⟩ (fun E h => zQ.opE (zPm (f:=I) elt_22 (fun _ => rfl) hv3 h.1 (wT h.2.1 rfl) rfl) rfl) ?_
 refine dC [(39,_)] Tryz.call137 (FnK.go (t_y.h _) hr4) ?_
 refine zCf [] ?_
 refine dG [(9,_),(40,_)] [([(9,some (T.ptr (xS r4))),(40,some (T.agg [T.same 9 [0,0],T.same 9 [1,0],T.same 9 [2,0]]))],[(9,1),(40,1)])] ⟨rfl,rfl,trivial⟩ (fun E h => zQ.opE (vZ zE1 rfl (wT h.1 rfl) h.1 rfl rfl h.2.1 (zG (xU ⟨(zK (Enc.clean (f:=I))),(zK (Enc.clean (f:=lV))),(zK (Enc.clean (f:=lM))),trivial⟩)) rfl) rfl) ?_
 refine dNA xR ?_
 refine nA (CW.seq (CW.to [(0,T.ro ((Pt xS) x0)),(1,T.ro ((Pt yB) x1)),(2,T.ro (lM x2)),(6,T.ptr (T.agg [L 1 I [],L 1 lV [],L 1 lM []])),(7,I (x0.zA.length:Int)),(9,T.ptr (xS r4))] ⟨rfl,rfl,rfl,rfl,rfl,rfl,trivial⟩ ?_))
 refine CW.region (yJ ?_)
 refine rN (CW.seq (sR (zR ?_)))
 refine zFM ?_
 refine zJ0 ?_
 refine qY ?_
 refine zAq ?_
 refine zR ?_
 refine rN (CW.block ?_)
 obtain ⟨r11,hr11,h⟩:=bd h
 refine CW.lp (s:=(r4.zU,0,0)) (zOv x0 x2) (fun s1:(List (List Int)) × Int × Int => xK [(0,T.ro ((Pt xS) x0)),(1,T.ro ((Pt yB) x1)),(2,T.ro (lM x2)),(6,T.ptr (T.agg [L 1 I [],L 1 lV [],L 1 lM []])),(7,I (x0.zA.length:Int)),(9,T.ptr (T.agg [L 1 I r4.zA,L 1 lV s1.1,L 1 lM r4.zB])),(10,I s1.2.1),(44,T.ro (lM x0.zU)),(45,I (x0.zU.length:Int)),(46,I s1.2.2)]) (fun (r11:((List (List Int)) × Int)) e E => e = .exit 0 ∧ zL ⟨St,W,w0,Tryz.f94.ntmps⟩ E (xK [(0,T.ro ((Pt xS) x0)),(1,T.ro ((Pt yB) x1)),(2,T.ro (lM x2)),(6,T.ptr (T.agg [L 1 I [],L 1 lV [],L 1 lM []])),(7,I (x0.zA.length:Int)),(9,T.ptr (T.agg [L 1 I r4.zA,L 1 lV r11.1,L 1 lM r4.zB])),(10,I r11.2)])) (.has ⟨rfl,rfl,rfl,rfl,rfl,rfl,rfl,rfl,rfl,rfl,trivial⟩) (fun s1 x h => ?_) hr11 (fun e E hq => ?_)
 refine sR (vH ?_)
 refine rN (CW.seq (cn h (fun hc h => ?_) (fun hc h => ?_)))
 refine CW.skip (nA (CW.seq (CW.block (sR (zR ?_)))))
 obtain ⟨v5,hv5,h⟩:=bd h
 refine zC8 ?_
 refine qY ?_
 refine yJ ?_
 refine yJ ?_
 refine rN (CW.seq ?_)
 obtain ⟨v6,hv6,h⟩:=bd h
 obtain ⟨r7,hr7,h⟩:=bd h
 obtain ⟨v8,hv8,h⟩:=bd h
 refine CW.dk ?_
 refine zA8 [(9,_)] ?_
 refine sW [(51,_),(9,_)] ?_
 refine yN [(11,_)] ?_
 refine yN [(12,_)] ?_
 refine yN [(2,_)] ?_
 refine yN [(10,_)] ?_
 refine zMG [(55,_),(56,_)] ?_
 refine zBo [(57,_)] ?_
 refine dG [(54,_),(58,_)] [([(59,some (L 1 (Ro lV) [v5,v6]))],[(59,0)])] ⟨rfl,rfl,trivial⟩ (fun E h => zQ.opE (zEh elt_23 [.tmp 54,.tmp 58] [.slot 54 (T.ro (lV v5)),.slot 58 (T.ro (lV v6))] [v5,v6] (Ro lV) ⟨.slot _ _,.slot _ _,trivial⟩ (pkS h.1 (zG trivial) rfl (pkS h.2.1 (zG trivial) rfl pkN)) rfl rfl) rfl) ?_
 refine dC [(59,_)] Tryz.call40 (FnK.go (t_r.h _) hr7) ?_
 refine zER [(52,_),(9,_),(53,_)] ?_
 refine dG [(61,_),(9,_),(60,_)] [([(9,some (T.ptr (T.agg [L 1 I r4.zA,L 1 lV (s1.1.set s1.2.2.toNat r7),L 1 lM r4.zB]))),(60,some (T.same 9 [s1.2.2.toNat,1,0]))],[(9,3),(60,1)])] ⟨rfl,rfl,rfl,trivial⟩ (fun E h => zQ.opE (zCR zBV rfl h.1 h.2.1 (yW (yX rfl (zM hv8 rfl))) (zA6 (zIm rfl (kL hv8 rfl))) h.2.2.1 (zG (zK (Enc.clean (f:=I)))) rfl) rfl) ?_
 refine dNA xR ?_
 refine nA (CW.region (zR ?_))
 obtain ⟨v9,hv9,h⟩:=bd h
 refine oP (zA4 hv9 rfl rfl rfl) ?_
 refine yJ ?_
 refine RW.nil ?_
 refine nB (nA (CW.region ?_))
 obtain ⟨v10,hv10,h⟩:=bd h
 refine oP (zA4 hv10 rfl rfl rfl) ?_
 refine zR ?_
 refine RW.nil ?_
 exact eN h
 refine CW.exit (xA ?_)
 exact eX h
 obtain ⟨rfl,hg⟩:=hq
 refine xB ?_
 refine nA (CW.ghost hg ?_)
 refine CW.seq (sR (zR ?_))
 refine zR ?_
 refine rN (CW.block ?_)
 obtain ⟨r32,hr32,h⟩:=bd h
 refine CW.lp (s:=(r4.zB,r11.2,0)) (zOy x0 x1 x2) (fun s11:(List (List (List Int))) × Int × Int => xK [(0,T.ro ((Pt xS) x0)),(1,T.ro ((Pt yB) x1)),(2,T.ro (lM x2)),(6,T.ptr (T.agg [L 1 I [],L 1 lV [],L 1 lM []])),(7,I (x0.zA.length:Int)),(9,T.ptr (T.agg [L 1 I r4.zA,L 1 lV r11.1,L 1 lM s11.1])),(10,I s11.2.1),(65,I (x0.zA.length:Int)),(66,I s11.2.2)]) (fun (r32:(List (List (List Int)))) e E => e = .exit 2 ∧ zL ⟨St,W,w0,Tryz.f94.ntmps⟩ E (xK [(6,T.ptr (T.agg [L 1 I [],L 1 lV [],L 1 lM []])),(9,T.ptr (T.agg [L 1 I r4.zA,L 1 lV r11.1,L 1 lM r32]))])) (.has ⟨rfl,rfl,rfl,rfl,rfl,rfl,rfl,rfl,rfl,trivial⟩) (fun s11 x h => ?_) hr32 (fun e E hq => ?_)
 refine sR (vH ?_)
 refine rN (CW.seq (cn h (fun hc h => ?_) (fun hc h => ?_)))
 refine CW.skip (nA (CW.seq (CW.block (sR (zR ?_)))))
 refine yJ ?_
 refine rN (CW.seq (sR (zR ?_)))
 refine zFM ?_
 refine zJ0 ?_
 refine qY ?_
 refine zR ?_
 obtain ⟨v12,hv12,h⟩:=bd h
 refine zC8 ?_
 refine qY ?_
 refine zAq ?_
 refine zR ?_
 refine rN (CW.block ?_)
 obtain ⟨r20,hr20,h⟩:=bd h
 refine CW.lp (s:=(s11.1,s11.2.1,0)) (zOw x2 s11 v12) (fun s12:(List (List (List Int))) × Int × Int => xK [(0,T.ro ((Pt xS) x0)),(1,T.ro ((Pt yB) x1)),(2,T.ro (lM x2)),(6,T.ptr (T.agg [L 1 I [],L 1 lV [],L 1 lM []])),(7,I (x0.zA.length:Int)),(9,T.ptr (T.agg [L 1 I r4.zA,L 1 lV r11.1,L 1 lM s12.1])),(10,I s12.2.1),(13,I s11.2.2),(65,I (x0.zA.length:Int)),(66,I s11.2.2),(75,T.ro (lM v12)),(76,I (v12.length:Int)),(77,I s12.2.2)]) (fun (r20:((List (List (List Int))) × Int)) e E => e = .exit 4 ∧ zL ⟨St,W,w0,Tryz.f94.ntmps⟩ E (xK [(0,T.ro ((Pt xS) x0)),(1,T.ro ((Pt yB) x1)),(2,T.ro (lM x2)),(6,T.ptr (T.agg [L 1 I [],L 1 lV [],L 1 lM []])),(7,I (x0.zA.length:Int)),(9,T.ptr (T.agg [L 1 I r4.zA,L 1 lV r11.1,L 1 lM r20.1])),(10,I r20.2),(13,I s11.2.2),(65,I (x0.zA.length:Int)),(66,I s11.2.2)])) (.has ⟨rfl,rfl,rfl,rfl,rfl,rfl,rfl,rfl,rfl,rfl,rfl,rfl,rfl,trivial⟩) (fun s12 x h => ?_) hr20 (fun e E hq => ?_)
 refine sR (vH ?_)
 refine rN (CW.seq (cn h (fun hc h => ?_) (fun hc h => ?_)))
 refine CW.skip (nA (CW.seq (CW.block (sR (zR ?_)))))
 obtain ⟨v13,hv13,h⟩:=bd h
 refine zC8 ?_
 refine qY ?_
 refine yJ ?_
 refine yJ ?_
 refine rN (CW.seq ?_)
 obtain ⟨v14,hv14,h⟩:=bd h
 obtain ⟨v15,hv15,h⟩:=bd h
 obtain ⟨r16,hr16,h⟩:=bd h
 obtain ⟨v17,hv17,h⟩:=bd h
 refine CW.dk ?_
 refine zA8 [(9,_)] ?_
 refine sW [(82,_),(9,_)] ?_
 refine yN [(13,_)] ?_
 refine zER [(83,_),(9,_),(84,_)] ?_
 refine sW [(85,_),(9,_)] ?_
 refine yN [(14,_)] ?_
 refine yN [(15,_)] ?_
 refine yN [(2,_)] ?_
 refine yN [(10,_)] ?_
 refine zMG [(89,_),(90,_)] ?_
 refine zBo [(91,_)] ?_
 refine dG [(88,_),(92,_)] [([(93,some (L 1 (Ro lV) [v13,v15]))],[(93,0)])] ⟨rfl,rfl,trivial⟩ (fun E h => zQ.opE (zEh elt_23 [.tmp 88,.tmp 92] [.slot 88 (T.ro (lV v13)),.slot 92 (T.ro (lV v15))] [v13,v15] (Ro lV) ⟨.slot _ _,.slot _ _,trivial⟩ (pkS h.1 (zG trivial) rfl (pkS h.2.1 (zG trivial) rfl pkN)) rfl rfl) rfl) ?_
 refine dC [(93,_)] Tryz.call40 (FnK.go (t_r.h _) hr16) ?_
 refine zER [(86,_),(9,_),(87,_)] ?_
 refine dG [(95,_),(9,_),(94,_)] [([(9,some (T.ptr (T.agg [L 1 I r4.zA,L 1 lV r11.1,L 1 lM (s12.1.set s11.2.2.toNat (v14.set s12.2.2.toNat r16))]))),(94,some (T.same 9 [s12.2.2.toNat,s11.2.2.toNat,2,0]))],[(9,4),(94,1)])] ⟨rfl,rfl,rfl,trivial⟩ (fun E h => zQ.opE (zCR zBV rfl h.1 h.2.1 (yW (yX rfl (zM hv14 (zM hv17 rfl)))) (zA6 (zIm rfl (kL hv14 (kL hv17 rfl)))) h.2.2.1 (zG (zK (Enc.clean (f:=I)))) rfl) rfl) ?_
 refine dNA xR ?_
 refine nA (CW.region (zR ?_))
 obtain ⟨v18,hv18,h⟩:=bd h
 refine uA ?_
 refine yJ ?_
 refine RW.nil ?_
 refine nB (nA (CW.to [(0,T.ro ((Pt xS) x0)),(1,T.ro ((Pt yB) x1)),(2,T.ro (lM x2)),(6,T.ptr (T.agg [L 1 I [],L 1 lV [],L 1 lM []])),(7,I (x0.zA.length:Int)),(9,T.ptr (T.agg [L 1 I r4.zA,L 1 lV r11.1,L 1 lM (s12.1.set s11.2.2.toNat (v14.set s12.2.2.toNat r16))])),(10,I v18),(13,I s11.2.2),(65,I (x0.zA.length:Int)),(66,I s11.2.2),(75,T.ro (lM v12)),(76,I (v12.length:Int)),(77,I s12.2.2)] ⟨rfl,rfl,rfl,rfl,rfl,rfl,rfl,rfl,rfl,rfl,rfl,rfl,rfl,trivial⟩ ?_))
 refine CW.region ?_
 obtain ⟨v19,hv19,h⟩:=bd h
 refine uA ?_
 refine zR ?_
 refine RW.nil ?_
 exact eN h
 refine CW.exit (xA ?_)
 exact eX h
 obtain ⟨rfl,hg⟩:=hq
 refine xB ?_
 refine nA (CW.ghost hg ?_)
 refine sR (zR ?_)
 refine zFM ?_
 refine zJ0 ?_
 refine qY ?_
 refine zR ?_
 obtain ⟨v21,hv21,h⟩:=bd h
 refine zC8 ?_
 refine qY ?_
 refine zAq ?_
 refine zR ?_
 refine rN (CW.block ?_)
 obtain ⟨r30,hr30,h⟩:=bd h
 refine CW.lp (s:=(r20.1,0)) (zOx x0 s11 v21) (fun s14:(List (List (List Int))) × Int => xK [(0,T.ro ((Pt xS) x0)),(1,T.ro ((Pt yB) x1)),(2,T.ro (lM x2)),(6,T.ptr (T.agg [L 1 I [],L 1 lV [],L 1 lM []])),(7,I (x0.zA.length:Int)),(9,T.ptr (T.agg [L 1 I r4.zA,L 1 lV r11.1,L 1 lM s14.1])),(10,I r20.2),(13,I s11.2.2),(65,I (x0.zA.length:Int)),(66,I s11.2.2),(105,T.ro (lM v21)),(106,I (v21.length:Int)),(107,I s14.2)]) (fun (r30:(List (List (List Int)))) e E => e = .exit 6 ∧ zL ⟨St,W,w0,Tryz.f94.ntmps⟩ E (xK [(0,T.ro ((Pt xS) x0)),(1,T.ro ((Pt yB) x1)),(2,T.ro (lM x2)),(6,T.ptr (T.agg [L 1 I [],L 1 lV [],L 1 lM []])),(7,I (x0.zA.length:Int)),(9,T.ptr (T.agg [L 1 I r4.zA,L 1 lV r11.1,L 1 lM r30])),(10,I r20.2),(65,I (x0.zA.length:Int)),(66,I s11.2.2)])) (.has ⟨rfl,rfl,rfl,rfl,rfl,rfl,rfl,rfl,rfl,rfl,rfl,rfl,rfl,trivial⟩) (fun s14 x h => ?_) hr30 (fun e E hq => ?_)
 refine sR (vH ?_)
 refine rN (CW.seq (cn h (fun hc h => ?_) (fun hc h => ?_)))
 refine CW.skip (nA (CW.seq (CW.block (sR (zR ?_)))))
 obtain ⟨v22,hv22,h⟩:=bd h
 refine zC8 ?_
 refine qY ?_
 refine yJ ?_
 refine yJ ?_
 refine rN ?_
 obtain ⟨v23,hv23,h⟩:=bd h
 obtain ⟨v24,hv24,h⟩:=bd h
 obtain ⟨v25,hv25,h⟩:=bd h
 obtain ⟨v26,hv26,h⟩:=bd h
 obtain ⟨r27,hr27,h⟩:=bd h
 obtain ⟨v28,hv28,h⟩:=bd h
 refine CW.dk ?_
 refine zA8 [(9,_)] ?_
 refine sW [(112,_),(9,_)] ?_
 refine yN [(13,_)] ?_
 refine zER [(113,_),(9,_),(114,_)] ?_
 refine sW [(115,_),(9,_)] ?_
 refine yN [(7,_)] ?_
 refine zTR [(117,_)] ?_
 refine yN [(13,_)] ?_
 refine zTR [(118,_),(119,_)] ?_
 refine yN [(16,_)] ?_
 refine zMH [(120,_),(121,_)] ?_
 refine yN [(17,_)] ?_
 refine yN [(7,_)] ?_
 refine dC [(123,_),(124,_)] Tryz.call138 (FnK.go (t_aZ.h _ _ _) hr27) ?_
 refine zER [(116,_),(9,_),(122,_)] ?_
 refine dG [(126,_),(9,_),(125,_)] [([(9,some (T.ptr (T.agg [L 1 I r4.zA,L 1 lV r11.1,L 1 lM (s14.1.set s11.2.2.toNat (v23.set v26.toNat r27))]))),(125,some (T.same 9 [v26.toNat,s11.2.2.toNat,2,0]))],[(9,4),(125,1)])] ⟨rfl,rfl,rfl,trivial⟩ (fun E h => zQ.opE (zCR zBV rfl h.1 h.2.1 (yW (yX rfl (zM hv23 (zM hv28 rfl)))) (zA6 (zIm rfl (kL hv23 (kL hv28 rfl)))) h.2.2.1 (zG (zK (Enc.clean (f:=I)))) rfl) rfl) ?_
 refine dNA xR ?_
 refine nB (nA (CW.region ?_))
 obtain ⟨v29,hv29,h⟩:=bd h
 refine uA ?_
 refine zR ?_
 refine RW.nil ?_
 exact eN h
 refine CW.exit (xA ?_)
 exact eX h
 obtain ⟨rfl,hg⟩:=hq
 refine xB ?_
 refine nB (nA (CW.ghost hg ?_))
 refine CW.region ?_
 obtain ⟨v31,hv31,h⟩:=bd h
 refine uA ?_
 refine zR ?_
 refine RW.nil ?_
 exact eN h
 refine CW.exit (xA ?_)
 exact eX h
 obtain ⟨rfl,hg⟩:=hq
 refine xB ?_
 refine nA (CW.ghost hg ?_)
 refine sR (tJ ?_)
 refine RW.ghost (zL.trf 129 [0] 9 [0,0] _ _ rfl rfl rfl rfl rfl (zG (zK (Enc.clean (f:=I)))) rfl) ?_
 refine RW.ghost (zL.trf 129 [1] 9 [1,0] _ _ rfl rfl rfl rfl rfl (zG (zK (Enc.clean (f:=lV)))) rfl) ?_
 refine RW.ghost (zL.trf 129 [2] 9 [2,0] _ _ rfl rfl rfl rfl rfl (zG (zK (Enc.clean (f:=lM)))) rfl) ?_
 refine oP (vZ zE1 rfl (wT rfl rfl) rfl rfl rfl rfl (zG (xU ⟨(zK (Enc.clean (f:=I))),(zK (Enc.clean (f:=lV))),(zK (Enc.clean (f:=lM))),trivial⟩)) rfl) ?_
 refine rN (CW.ret ?_)
 obtain rfl:=sI h
 exact ⟨_,zL.refl,⟨.inl rfl,[(6,[0],T.agg [L 1 I r4.zA,L 1 lV r11.1,L 1 lM r32])],⟨⟨rfl,rfl,rfl,(var_34.h _ rfl rfl).h⟩,trivial⟩,rfl,(by simp),(by simp),trivial⟩⟩
instance t_j:FI Tryz.prog 94 (∀ (x0:SPr) (x1:zC) (x2:List (List Int)),FnK Tryz.prog 94 [T.ro ((Pt xS) x0),T.ro ((Pt yB) x1),T.ro (lM x2)] (fun r:SPr => [xS r]) (fun _ => []) (f_j x0 x1 x2)):=⟨Tryz.call94,fun x0 x1 x2 => FnK.mk (u_j x0 x1 x2)⟩
section
attribute [local irreducible] RW CW DK OkL Ok wA wG vV vW XS.post rng tV uQ ixO zX xQ vR yZ zH GTo zL FnC FnK uR qH Kp Lk BsL BuL RpL Bk Lc
instance t_by:FI Tryz.prog 55 (∀ (x0:SPr) (x1:zC) (x2:List (List Int)),FnK Tryz.prog 55 [T.ro ((Pt xS) x0),T.ro ((Pt yB) x1),T.ro (lM x2)] (fun r:Bool => [B r]) (fun _ => []) (zTt x0 x1 x2)):=⟨Tryz.call55,fun x0 x1 x2 => iF Tryz.func55⟩
instance (x0:SPr) (x1:zC) (x2:List (List (List Int))):LH (R:=Int) (zRU x0 x1 x2) [0,1,2,15,16] [] (fun s1 => [(17,I s1)]) (.xs (.xe 0 [15,16] fun _ => []) .xr):=⟨⟩
instance (x0:SPr) (x1:zC) (x2:List (List (List Int))):LH (R:=Int) (zRV x0 x1 x2) [0,1,27,28] [] (fun s3 => [(29,I s3)]) (.xs (.xe 2 [0,1,27,28] fun _ => []) .xr):=⟨⟩
instance t_M:FI Tryz.prog 38 (∀ (x0:SPr) (x1:zC) (x2:List (List (List Int))),FnK Tryz.prog 38 [T.ro ((Pt xS) x0),T.ro ((Pt yB) x1),T.ro (lC x2)] (fun r:Int => [I r]) (fun _ => []) (f_M x0 x1 x2)):=⟨Tryz.call38,fun x0 x1 x2 => iF Tryz.func38⟩
instance (x0:List Int) (x1:Int):LH (R:=(List (List Int))) (zOs x0 x1) [0,1] [] (fun s1 => [(5,L 1 lV s1.1),(6,I s1.2)]) (.xe 0 [0,1] fun r6 => [(5,L 1 lV r6)]):=⟨⟩
instance t_W:FI Tryz.prog 73 (∀ (x0:List Int) (x1:Int),FnK Tryz.prog 73 [T.ro (lV x0),I x1] (fun r:(List (List Int)) => [lM r]) (fun _ => []) (f_W x0 x1)):=⟨Tryz.call73,fun x0 x1 => iF Tryz.func73⟩
instance (x0:zC) (x1:List (List Int)) (x2:List Int):LH (R:=(List Int)) (zK7 x0 x1 x2) [0,1,15,16] [] (fun s1 => [(7,L 1 I s1.1),(17,I s1.2)]) (.xe 0 [0,1,15,16] fun r10 => [(7,L 1 I r10)]):=⟨⟩
instance t_am:FI Tryz.prog 148 (∀ (x0:zC) (x1:List (List Int)) (x2:List Int),FnK Tryz.prog 148 [T.ro ((Pt yB) x0),T.ro (lM x1),T.ro (lV x2)] (fun r:(List Int) => [lV r]) (fun _ => []) (zRK x0 x1 x2)):=⟨Tryz.call148,fun x0 x1 x2 => iF Tryz.func148⟩
end
end Go.Wk

namespace Go.Wk
open Go Go.Proofs Go.Ab
set_option maxRecDepth 100000
set_option maxHeartbeats 4000000
section
attribute [local irreducible] RW CW DK OkL Ok wA wG vV vW XS.post rng tV uQ ixO zX xQ vR yZ zH GTo zL FnC FnK uR qH Kp Lk BsL BuL RpL Bk Lc
instance:GHs Tryz.f121.results:=⟨⟩
instance:GH Tryz.f121.results 0 13 0 (.fz 12):=⟨⟩
instance:GH Tryz.f121.results 2 6 0 (.tr 10 22):=⟨⟩
instance:GH Tryz.f121.results 0 36 0 (.tr 35 10):=⟨⟩
instance:GH Tryz.f121.results 0 37 0 (.tr 34 7):=⟨⟩
instance:GH Tryz.f121.results 2 8 0 (.tr 7 37):=⟨⟩
instance (x1:zC) (x2:List (List Int)) (r1:(List ((List Int) × (List Int)))):LH (R:=(List (List Int))) (zK8 x1 x2 r1) [1,2,12,13] [] (fun s1 => [(7,L 1 lV s1.1),(14,I s1.2)]) (.xe 0 [1,2,12,13] fun r8 => [(7,L 1 lV r8)]):=⟨⟩
instance t_aD:FI Tryz.prog 121 (∀ (x0:SPr) (x1:zC) (x2:List (List Int)),FnK Tryz.prog 121 [T.ro ((Pt xS) x0),T.ro ((Pt yB) x1),T.ro (lM x2)] (fun r:(List (List Int)) => [lM r]) (fun _ => []) (zTo x0 x1 x2)):=⟨Tryz.call121,fun x0 x1 x2 => iF Tryz.func121⟩
instance (x0:SPr) (x1:zC) (v1:Int):LH (R:=(List (List Int))) (zKF x0 x1 v1) [0,1,5,18] [] (fun s1 => [(6,L 1 lV s1.1),(19,I s1.2)]) (.xe 0 [0,1,5,18] fun r8 => [(6,L 1 lV r8)]):=⟨⟩
instance t_aG:FI Tryz.prog 72 (∀ (x0:SPr) (x1:zC),FnK Tryz.prog 72 [T.ro ((Pt xS) x0),T.ro ((Pt yB) x1)] (fun r:(List (List Int)) => [lM r]) (fun _ => []) (zT0 x0 x1)):=⟨Tryz.call72,fun x0 x1 => iF Tryz.func72⟩
instance t_bE:FI Tryz.prog 71 (∀ (x0:Int) (x1:List (List Int)),FnK Tryz.prog 71 [I x0,T.ro (lM x1)] (fun r:zV => [(fun x => T.agg [I x.Prime,I x.xT,(Ro lM) x.Rows]) r]) (fun _ => []) (zV5 x0 x1)):=⟨Tryz.call71,fun x0 x1 => iF Tryz.func71⟩
instance (x0:List (List Int)):LH (R:=(List (List Int))) (zK0 x0) [0,7,8] [] (fun s1 => [(3,L 1 lV s1.1),(9,I s1.2)]) (.xe 0 [0,7,8] fun r8 => [(3,L 1 lV r8)]):=⟨⟩
instance t_ab:FI Tryz.prog 115 (∀ (x0:List (List Int)),FnK Tryz.prog 115 [T.ro (lM x0)] (fun r:(List (List Int)) => [lM r]) (fun _ => []) (zRB x0)):=⟨Tryz.call115,fun x0 => iF Tryz.func115⟩
instance (x0:List (List Int)):LH (R:=(List (List Int))) (zK1 x0) [6,7] [] (fun s1 => [(3,L 1 lV s1.1),(8,I s1.2)]) (.xe 0 [6,7] fun r5 => [(3,L 1 lV r5)]):=⟨⟩
instance t_an:FI Tryz.prog 143 (∀ (x0:List (List Int)),FnK Tryz.prog 143 [T.ro (lM x0)] (fun r:(List (List Int)) => [lM r]) (fun _ => []) (zTj x0)):=⟨Tryz.call143,fun x0 => iF Tryz.func143⟩
instance  : LH (R:=Int × Bool) zOq [1] [] (fun s1 => [(6,I s1.1),(7,I s1.2.1),(8,I s1.2.2.1),(9,I s1.2.2.2)]) (.xe 0 [] fun r6 => [(6,I r6.1),(8,I r6.2)]):=⟨⟩
instance t_O:FI Tryz.prog 144 (∀ (x0:Int) (x1:Int),FnK Tryz.prog 144 [I x0,I x1] (fun r:Int × Bool => [I r.1,B r.2]) (fun _ => []) (f_O x0 x1)):=⟨Tryz.call144,fun x0 x1 => iF Tryz.func144⟩
end
theorem u_g (x0:Int) (x1:List (List Int)) (r:(List (List Int))) (h:f_g x0 x1 = some r):FnC Tryz.prog 104 [I x0,T.ro (lM x1)] [lM r] []:=by
 refine fB Tryz.func104 (fun St W w0 v => ?_)
 refine sR (oP (zC4 1 rfl) ?_)
 refine rN (sR (zR ?_))
 obtain ⟨r1,hr1,h⟩:=bd h
 refine cA Tryz.call143 (FnK.go (t_an.h _) hr1) ?_
 refine yJ ?_
 refine RW.ghost (zL.tr 1 13 _ rfl rfl (zG (zK (Enc.clean (f:=lV)))) rfl) ?_
 refine rN (sR (yJ ?_))
 refine rN (CW.seq (sR (yJ ?_)))
 refine rN (CW.block ?_)
 obtain ⟨r33,hr33,h⟩:=bd h
 refine CW.lp (s:=(r1,0,0)) (zLW x0) (fun s13:(List (List Int)) × Int × Int => xK [(0,I x0),(1,L 1 lV s13.1),(5,I s13.2.1),(6,I s13.2.2)]) (fun (r33:((List (List Int)) × Int)) e E => e = .exit 0 ∧ zL ⟨St,W,w0,Tryz.f104.ntmps⟩ E (xK [(1,L 1 lV r33.1),(5,I r33.2)])) (.has ⟨rfl,rfl,rfl,rfl,trivial⟩) (fun s13 x h => ?_) hr33 (fun e E hq => ?_)
 refine CW.seq (sR (zR ?_))
 refine zJ1 ?_
 refine zTO ?_
 refine zR ?_
 refine RW.cases 17 _ rfl (fun hc => ?_) (fun hc => ?_)
 have h:=cT hc h
 refine zBu ?_
 refine zBu ?_
 obtain ⟨v2,hv2,h⟩:=bd h
 refine zUA ?_
 refine zU9 ?_
 refine zTQ ?_
 refine zTM ?_
 refine uB ?_
 refine zR ?_
 refine RW.cases 25 _ rfl (fun hc => ?_) (fun hc => ?_)
 have h:=cT hc h
 refine zBu ?_
 refine zBu ?_
 refine zTQ ?_
 refine zTM ?_
 refine uB ?_
 refine rN (cn h (fun hc h => ?_) (fun hc h => ?_))
 refine CW.skip (nA (CW.seq (CW.block (sR (zR ?_)))))
 refine yJ ?_
 refine rN (CW.seq (CW.block ?_))
 obtain ⟨r6,hr6,h⟩:=bd h
 refine CW.lp (s:=s13.2.1) (zGZ s13) (fun s14:Int => xK [(0,I x0),(1,L 1 lV s13.1),(5,I s13.2.1),(6,I s13.2.2),(7,I s14)]) (fun (r6:Int) e E => e = .exit 2 ∧ zL ⟨St,W,w0,Tryz.f104.ntmps⟩ E (xK [(0,I x0),(1,L 1 lV s13.1),(5,I s13.2.1),(6,I s13.2.2),(7,I r6)])) (.has ⟨rfl,rfl,rfl,rfl,rfl,trivial⟩) (fun s14 x h => ?_) hr6 (fun e E hq => ?_)
 refine CW.seq (sR (zR ?_))
 refine zR ?_
 refine zJ1 ?_
 refine vH ?_
 refine zR ?_
 refine RW.cases 38 _ rfl (fun hc => ?_) (fun hc => ?_)
 have h:=cT hc h
 refine zBu ?_
 refine zBu ?_
 obtain ⟨v3,hv3,h⟩:=bd h
 refine zUA ?_
 refine zU9 ?_
 refine zBu ?_
 obtain ⟨v4,hv4,h⟩:=bd h
 refine zUA ?_
 refine zU9 ?_
 refine zVL ?_
 refine uB ?_
 refine rN (cn h (fun hc h => ?_) (fun hc h => ?_))
 refine CW.skip (nA (CW.block (CW.region (zR ?_))))
 obtain ⟨v5,hv5,h⟩:=bd h
 refine uA ?_
 refine yJ ?_
 refine RW.nil ?_
 exact nB (eN h)
 refine CW.exit (xA ?_)
 exact eX h
 have h:=cF hc h
 refine sk2 ?_
 refine sk2 ?_
 refine sk2 ?_
 refine sk2 ?_
 refine sk2 ?_
 refine sk2 ?_
 refine sk2 ?_
 refine sk2 ?_
 refine uB ?_
 refine rN (CW.condF rfl ?_)
 refine CW.exit (xA ?_)
 exact eX h
 obtain ⟨rfl,hg⟩:=hq
 refine xB ?_
 refine nA (CW.ghost hg ?_)
 refine CW.seq (sR (zR ?_))
 refine zR ?_
 refine zJ1 ?_
 refine zVK ?_
 refine rN (cn h (fun hc h => ?_) (fun hc h => ?_))
 refine CW.exit (xA ?_)
 refine xB ?_
 refine nA (CW.region (zR ?_))
 obtain ⟨v7,hv7,h⟩:=bd h
 refine uA ?_
 refine yJ ?_
 refine RW.nil ?_
 exact eN h
 refine CW.skip (nA (CW.seq ?_))
 obtain ⟨v8,hv8,h⟩:=bd h
 obtain ⟨v9,hv9,h⟩:=bd h
 refine CW.midA [(0,I x0),(1,L 1 lV (sZ s13.1 s13.2.1 r6 v8 v9)),(5,I s13.2.1),(6,I s13.2.2)] ?_ ?_
 refine CW.casesB (r6 == s13.2.1) (fun hc => ?_) (fun hc => ?_)
 have hij:(r6:Int) = s13.2.1:=by simpa using hc
 refine CW.dkS [1] ?_
 refine zEF 1 ?_
 refine yN [(5,_)] ?_
 refine zEF 1 ?_
 refine yN [(7,_)] ?_
 refine zEF 1 ?_
 refine yN [(7,_)] ?_
 refine zER [(58,_),(1,_),(59,_)] ?_
 refine sW [(60,_),(1,_)] ?_
 refine zEF 1 ?_
 refine yN [(5,_)] ?_
 refine zER [(62,_),(1,_),(63,_)] ?_
 refine sW [(64,_),(1,_)] ?_
 refine zER [(54,_),(1,_),(55,_)] ?_
 refine zXv (V:=65) zBV rfl hv8 hij ?_
 refine dG [(56,_),(1,_),(57,_)] [([(67,some (T.addr 1 [(r6:Int).toNat]))],[(67,0)])] ⟨rfl,rfl,rfl,trivial⟩ (fun E h => zQ.opE (zTT (uJ h.1 h.2.1 rfl rfl) h.2.2.1 (zTU hv8 (by simp)) rfl) rfl) ?_
 refine zXw (U:=61) zBV rfl hv8 hv9 hij ?_
 refine dNA xR ?_
 exact ⟨rfl,.has ⟨rfl,rfl,rfl,rfl,trivial⟩⟩
 have hn:=zPA hv8 hv9 hc
 refine CW.dkS [1] ?_
 refine zEF 1 ?_
 refine yN [(5,_)] ?_
 refine zEF 1 ?_
 refine yN [(7,_)] ?_
 refine zEF 1 ?_
 refine yN [(7,_)] ?_
 refine zER [(58,_),(1,_),(59,_)] ?_
 refine sW [(60,_),(1,_)] ?_
 refine zEF 1 ?_
 refine yN [(5,_)] ?_
 refine zER [(62,_),(1,_),(63,_)] ?_
 refine sW [(64,_),(1,_)] ?_
 refine zER [(54,_),(1,_),(55,_)] ?_
 refine zXt (V:=65) zBV rfl hv8 hv9 hn ?_
 refine dG [(56,_),(1,_),(57,_)] [([(67,some (T.addr 1 [(r6:Int).toNat]))],[(67,0)])] ⟨rfl,rfl,rfl,trivial⟩ (fun E h => zQ.opE (zTT (uJ h.1 h.2.1 rfl rfl) h.2.2.1 (zTU hv8 (by simp)) rfl) rfl) ?_
 refine zXu zBV rfl hv8 hv9 hn ?_
 refine dNA xR ?_
 exact ⟨rfl,.has ⟨rfl,rfl,rfl,rfl,trivial⟩⟩
 refine sR (zR ?_)
 refine zR ?_
 obtain ⟨v10,hv10,h⟩:=bd h
 refine oP (zEb (f:=lV) row_23 hv10 (uJ rfl rfl rfl rfl) rfl rfl) ?_
 refine oP (zEO (var_22.h _ rfl rfl) rfl rfl (zM hv10 rfl) rfl) ?_
 refine zR ?_
 obtain ⟨v11,hv11,h⟩:=bd h
 refine oP (zEb (f:=I) row_22 hv11 (uJ rfl rfl (zM hv10 rfl) rfl) rfl rfl) ?_
 refine oP (zEO (var_2.h _ rfl rfl) rfl rfl (zM hv10 (zM hv11 rfl)) rfl) ?_
 refine zR ?_
 obtain ⟨r12,hr12,h⟩:=bd h
 refine cA Tryz.call144 (FnK.go (t_O.h _ _) hr12) ?_
 refine zP5 ?_
 refine zHy ?_
 refine zHy ?_
 refine yJ ?_
 refine yJ ?_
 refine rN (CW.seq (sR (zR ?_)))
 refine zR ?_
 obtain ⟨v13,hv13,h⟩:=bd h
 refine oP (zEb (f:=lV) row_23 hv13 (uJ rfl rfl rfl rfl) rfl rfl) ?_
 refine oP (zEO (var_22.h _ rfl rfl) rfl rfl (zM hv13 rfl) rfl) ?_
 refine oP (zPh Tryz.underlying22 (uJ rfl rfl (zM hv13 rfl) rfl) rfl) ?_
 refine zR ?_
 refine rN (CW.block ?_)
 obtain ⟨r21,hr21,h⟩:=bd h
 refine CW.lp (s:=(sZ s13.1 s13.2.1 r6 v8 v9,0)) (zK2 x0 s13 r12 v13) (fun s16:(List (List Int)) × Int => xK [(0,I x0),(1,L 1 lV s16.1),(5,I s13.2.1),(6,I s13.2.2),(8,I r12.1),(84,I (v13.length:Int)),(85,I s16.2)]) (fun (r21:(List (List Int))) e E => e = .exit 4 ∧ zL ⟨St,W,w0,Tryz.f104.ntmps⟩ E (xK [(0,I x0),(1,L 1 lV r21),(5,I s13.2.1),(6,I s13.2.2)])) (.has ⟨rfl,rfl,rfl,rfl,rfl,rfl,rfl,trivial⟩) (fun s16 x h => ?_) hr21 (fun e E hq => ?_)
 refine sR (vH ?_)
 refine rN (CW.seq (cn h (fun hc h => ?_) (fun hc h => ?_)))
 refine CW.skip (nA (CW.seq (CW.block (sR (zR ?_)))))
 refine yJ ?_
 refine rN ?_
 obtain ⟨v14,hv14,h⟩:=bd h
 obtain ⟨v15,hv15,h⟩:=bd h
 obtain ⟨v16,hv16,h⟩:=bd h
 obtain ⟨v17,hv17,h⟩:=bd h
 obtain ⟨v18,hv18,h⟩:=bd h
 obtain ⟨v19,hv19,h⟩:=bd h
 refine CW.dk ?_
 refine yN [(1,_)] ?_
 refine yN [(5,_)] ?_
 refine dG [(88,_),(1,_),(89,_)] [([(90,some (T.addr 1 [s13.2.1.toNat]))],[(90,0)])] ⟨rfl,rfl,rfl,trivial⟩ (fun E h => zQ.opE (zEb (f:=lV) row_23 hv14 (uJ h.1 h.2.1 rfl rfl) h.2.2.1 rfl) rfl) ?_
 refine dG [(90,_),(1,_)] [([(91,some (T.same 1 [s13.2.1.toNat]))],[(91,0)])] ⟨rfl,rfl,trivial⟩ (fun E h => zQ.opE (zEO (var_22.h _ rfl rfl) h.1 h.2.1 (zM hv14 rfl) rfl) rfl) ?_
 refine yN [(10,_)] ?_
 refine yN [(1,_)] ?_
 refine yN [(5,_)] ?_
 refine dG [(93,_),(1,_),(94,_)] [([(95,some (T.addr 1 [s13.2.1.toNat]))],[(95,0)])] ⟨rfl,rfl,rfl,trivial⟩ (fun E h => zQ.opE (zEb (f:=lV) row_23 hv15 (uJ h.1 h.2.1 rfl rfl) h.2.2.1 rfl) rfl) ?_
 refine dG [(95,_),(1,_)] [([(96,some (T.same 1 [s13.2.1.toNat]))],[(96,0)])] ⟨rfl,rfl,trivial⟩ (fun E h => zQ.opE (zEO (var_22.h _ rfl rfl) h.1 h.2.1 (zM hv15 rfl) rfl) rfl) ?_
 refine yN [(10,_)] ?_
 refine dG [(96,_),(1,_),(97,_)] [([(98,some (T.addr 1 [s16.2.toNat,s13.2.1.toNat]))],[(98,0)])] ⟨rfl,rfl,rfl,trivial⟩ (fun E h => zQ.opE (zEb (f:=I) row_22 hv16 (uJ h.1 h.2.1 (zM hv15 rfl) rfl) h.2.2.1 rfl) rfl) ?_
 refine dG [(98,_),(1,_)] [([(99,some (I v16))],[(99,0)])] ⟨rfl,rfl,trivial⟩ (fun E h => zQ.opE (zEO (var_2.h _ rfl rfl) h.1 h.2.1 (zM hv15 (zM hv16 rfl)) rfl) rfl) ?_
 refine yN [(8,_)] ?_
 refine zVO [(99,_),(100,_)] ?_
 refine yN [(0,_)] ?_
 refine zVP [(101,_),(102,_)] ?_
 refine dG [(91,_),(1,_),(92,_)] [([(104,some (T.addr 1 [s16.2.toNat,s13.2.1.toNat]))],[(104,0)])] ⟨rfl,rfl,rfl,trivial⟩ (fun E h => zQ.opE (zEb (f:=I) row_22 hv19 (uJ h.1 h.2.1 (zM hv14 rfl) rfl) h.2.2.1 rfl) rfl) ?_
 refine dG [(104,_),(1,_),(103,_)] [([(1,some (L 1 lV (s16.1.set s13.2.1.toNat (v14.set s16.2.toNat v18))))],[(1,2)])] ⟨rfl,rfl,rfl,trivial⟩ (fun E h => zQ.opE (zCR zDM rfl h.1 h.2.1 (zM hv14 (zM hv19 rfl)) (kL hv14 (kL hv19 rfl)) h.2.2.1 (zG (Enc.clean (f:=I) _)) rfl) rfl) ?_
 refine dNA xR ?_
 refine nB (nA (CW.region ?_))
 obtain ⟨v20,hv20,h⟩:=bd h
 refine uA ?_
 refine zR ?_
 refine RW.nil ?_
 exact eN h
 refine CW.exit (xA ?_)
 exact eX h
 obtain ⟨rfl,hg⟩:=hq
 refine xB ?_
 refine nA (CW.ghost hg ?_)
 refine CW.seq (sR (zR ?_))
 refine zJ1 ?_
 refine zR ?_
 refine rN (CW.block ?_)
 obtain ⟨r30,hr30,h⟩:=bd h
 refine CW.lp (s:=(r21,0)) (zLV x0 s13 r21) (fun s18:(List (List Int)) × Int => xK [(0,I x0),(1,L 1 lV s18.1),(5,I s13.2.1),(6,I s13.2.2),(107,I (r21.length:Int)),(108,I s18.2)]) (fun (r30:(List (List Int))) e E => e = .exit 6 ∧ zL ⟨St,W,w0,Tryz.f104.ntmps⟩ E (xK [(0,I x0),(1,L 1 lV r30),(5,I s13.2.1),(6,I s13.2.2)])) (.has ⟨rfl,rfl,rfl,rfl,rfl,rfl,trivial⟩) (fun s18 x h => ?_) hr30 (fun e E hq => ?_)
 refine sR (vH ?_)
 refine rN (CW.seq (cn h (fun hc h => ?_) (fun hc h => ?_)))
 refine CW.skip (nA (CW.seq (CW.block (sR (zR ?_)))))
 refine yJ ?_
 refine rN (sR (zR ?_))
 refine zR ?_
 refine zMF ?_
 refine rN (cn h (fun hc h => ?_) (fun hc h => ?_))
 obtain ⟨v22,hv22,h⟩:=bd h
 obtain ⟨v23,hv23,h⟩:=bd h
 obtain ⟨v24,hv24,h⟩:=bd h
 obtain ⟨v25,hv25,h⟩:=bd h
 obtain ⟨v26,hv26,h⟩:=bd h
 obtain ⟨r27,hr27,h⟩:=bd h
 refine CW.dk ?_
 refine yN [(1,_)] ?_
 refine yN [(11,_)] ?_
 refine dG [(114,_),(1,_),(115,_)] [([(116,some (T.addr 1 [s18.2.toNat]))],[(116,0)])] ⟨rfl,rfl,rfl,trivial⟩ (fun E h => zQ.opE (zEb (f:=lV) row_23 hv22 (uJ h.1 h.2.1 rfl rfl) h.2.2.1 rfl) rfl) ?_
 refine dG [(116,_),(1,_)] [([(117,some (T.same 1 [s18.2.toNat]))],[(117,0)])] ⟨rfl,rfl,trivial⟩ (fun E h => zQ.opE (zEO (var_22.h _ rfl rfl) h.1 h.2.1 (zM hv22 rfl) rfl) rfl) ?_
 refine yN [(1,_)] ?_
 refine yN [(5,_)] ?_
 refine dG [(118,_),(1,_),(119,_)] [([(120,some (T.addr 1 [s13.2.1.toNat]))],[(120,0)])] ⟨rfl,rfl,rfl,trivial⟩ (fun E h => zQ.opE (zEb (f:=lV) row_23 hv23 (uJ h.1 h.2.1 rfl rfl) h.2.2.1 rfl) rfl) ?_
 refine dG [(120,_),(1,_)] [([(121,some (T.same 1 [s13.2.1.toNat]))],[(121,0)])] ⟨rfl,rfl,trivial⟩ (fun E h => zQ.opE (zEO (var_22.h _ rfl rfl) h.1 h.2.1 (zM hv23 rfl) rfl) rfl) ?_
 refine yN [(1,_)] ?_
 refine yN [(11,_)] ?_
 refine dG [(122,_),(1,_),(123,_)] [([(124,some (T.addr 1 [s18.2.toNat]))],[(124,0)])] ⟨rfl,rfl,rfl,trivial⟩ (fun E h => zQ.opE (zEb (f:=lV) row_23 hv24 (uJ h.1 h.2.1 rfl rfl) h.2.2.1 rfl) rfl) ?_
 refine dG [(124,_),(1,_)] [([(125,some (T.same 1 [s18.2.toNat]))],[(125,0)])] ⟨rfl,rfl,trivial⟩ (fun E h => zQ.opE (zEO (var_22.h _ rfl rfl) h.1 h.2.1 (zM hv24 rfl) rfl) rfl) ?_
 refine yN [(6,_)] ?_
 refine dG [(125,_),(1,_),(126,_)] [([(127,some (T.addr 1 [s13.2.2.toNat,s18.2.toNat]))],[(127,0)])] ⟨rfl,rfl,rfl,trivial⟩ (fun E h => zQ.opE (zEb (f:=I) row_22 hv25 (uJ h.1 h.2.1 (zM hv24 rfl) rfl) h.2.2.1 rfl) rfl) ?_
 refine dG [(127,_),(1,_)] [([(128,some (I v25))],[(128,0)])] ⟨rfl,rfl,trivial⟩ (fun E h => zQ.opE (zEO (var_2.h _ rfl rfl) h.1 h.2.1 (zM hv24 (zM hv25 rfl)) rfl) rfl) ?_
 refine zP8 [(128,_)] ?_
 refine yN [(0,_)] ?_
 refine dG [(117,_),(1,_),(121,_),(129,_),(130,_)] [([(117,some (L 1 I v22)),(1,some ((L 1 lV s18.1).set [s18.2.toNat] T.any))],[(117,1),(1,2)]),([(131,some (T.tup [])),(117,some (L 1 I r27))],[(131,0),(117,1)]),([(1,some (L 1 lV (s18.1.set s18.2.toNat r27))),(117,some (T.same 1 [s18.2.toNat]))],[(1,2),(117,1)])] ⟨rfl,rfl,rfl,rfl,rfl,trivial⟩ (fun E h => zQ.opE (zAd (xs:=[.tmp 117,.tmp 121,.tmp 129,.tmp 130]) 0 117 1 [s18.2.toNat] Tryz.call69 (t_v.h _ _ _ _ _ hr27) h.1 h.2.1 (zM hv22 rfl) (zG (zK (Enc.clean (f:=I)))) (zG (zK (Enc.clean (f:=I)))) (Enc.rofree (f:=L 1 I) _) (Enc.rofree (f:=L 1 I) _) ⟨(zEP rfl (zG (zK (Enc.clean (f:=I)))) (Enc.rofree (f:=L 1 I) _)),⟨(agM _ (zED h.2.2.1) (tT rfl (zMK hv22 hv23 (by assumption)) inferInstance) (zP9 rfl (zMK hv22 hv23 (by assumption)) rfl rfl)),⟨(agM _ (zED h.2.2.2.1) rfl rfl),⟨(agM _ (zED h.2.2.2.2.1) rfl rfl),trivial⟩⟩⟩⟩ wL (kL hv22 rfl) rfl rfl rfl) rfl) ?_
 refine dNA xR ?_
 refine nB (nA (CW.to [(0,I x0),(1,L 1 lV (s18.1.set s18.2.toNat r27)),(5,I s13.2.1),(6,I s13.2.2),(107,I (r21.length:Int)),(108,I s18.2)] ⟨rfl,rfl,rfl,rfl,rfl,rfl,trivial⟩ ?_))
 refine CW.region ?_
 obtain ⟨v28,hv28,h⟩:=bd h
 refine uA ?_
 refine zR ?_
 refine RW.nil ?_
 exact eN h
 refine CW.skip (nB (nA (CW.region ?_)))
 obtain ⟨v29,hv29,h⟩:=bd h
 refine uA ?_
 refine zR ?_
 refine RW.nil ?_
 exact eN h
 refine CW.exit (xA ?_)
 exact eX h
 obtain ⟨rfl,hg⟩:=hq
 refine xB ?_
 refine nA (CW.ghost hg ?_)
 refine CW.region (zR ?_)
 obtain ⟨v31,hv31,h⟩:=bd h
 refine oP (zA4 hv31 rfl rfl rfl) ?_
 refine yJ ?_
 refine RW.nil ?_
 refine nB (nA (CW.region (zR ?_)))
 obtain ⟨v32,hv32,h⟩:=bd h
 refine oP (zA4 hv32 rfl rfl rfl) ?_
 refine yJ ?_
 refine RW.nil ?_
 exact eN h
 refine CW.exit (xA ?_)
 exact eX h
 have h:=cF hc h
 refine sk2 ?_
 refine sk2 ?_
 refine sk2 ?_
 refine sk2 ?_
 refine uB ?_
 refine rN (CW.condF rfl ?_)
 refine CW.exit (xA ?_)
 exact eX h
 have h:=cF hc h
 refine sk2 ?_
 refine sk2 ?_
 refine sk2 ?_
 refine sk2 ?_
 refine sk2 ?_
 refine sk2 ?_
 refine uB ?_
 refine zR ?_
 refine sk2 ?_
 refine sk2 ?_
 refine sk2 ?_
 refine sk2 ?_
 refine uB ?_
 refine rN (CW.condF rfl ?_)
 refine CW.exit (xA ?_)
 exact eX h
 obtain ⟨rfl,hg⟩:=hq
 refine xB ?_
 refine nA (CW.ghost hg ?_)
 refine sR (zR ?_)
 refine zR ?_
 refine zR ?_
 refine RW.ghost (zL.tr 135 1 _ rfl rfl (zG (zK (Enc.clean (f:=lV)))) rfl) ?_
 obtain ⟨v34,hv34,h⟩:=bd h
 refine oP (zTJ (f:=lV) elt_23 hv34 rfl rfl (.inr ⟨_,rfl,rfl⟩) rfl) ?_
 refine yJ ?_
 refine RW.ghost (zL.tr 4 138 _ rfl rfl (zG (zK (Enc.clean (f:=lV)))) rfl) ?_
 refine rN (CW.ret ?_)
 obtain rfl:=sI h
 exact rT
instance t_g:FI Tryz.prog 104 (∀ (x0:Int) (x1:List (List Int)),FnK Tryz.prog 104 [I x0,T.ro (lM x1)] (fun r:(List (List Int)) => [lM r]) (fun _ => []) (f_g x0 x1)):=⟨Tryz.call104,fun x0 x1 => FnK.mk (u_g x0 x1)⟩
section
attribute [local irreducible] RW CW DK OkL Ok wA wG vV vW XS.post rng tV uQ ixO zX xQ vR yZ zH GTo zL FnC FnK uR qH Kp Lk BsL BuL RpL Bk Lc
instance t_bv:FI Tryz.prog 117 (∀ (x0:Int),FnK Tryz.prog 117 [I x0] (fun r:Bool => [B r]) (fun _ => []) (zT2 x0)):=⟨Tryz.call117,fun x0 => iF Tryz.func117⟩
instance (x0:List Int):LH (R:=Int) (zHR x0) [0,1,7] [] (fun s1 => [(8,I s1)]) (.xs (.xe 0 [0,1,7] fun _ => []) .xr):=⟨⟩
instance t_ac:FJ Tryz.prog 116 117 (∀ (x0:List Int),FnK Tryz.prog 116 [T.ro (lV x0),T.lit (.func (.func 117) #[] #[])] (fun r:Int => [I r]) (fun _ => []) (zT3 x0)):=⟨Tryz.call116,fun x0 => iF Tryz.func116⟩
instance:GHs Tryz.f142.results:=⟨⟩
instance:GH Tryz.f142.results 0 14 0 (.fz 13):=⟨⟩
instance:GH Tryz.f142.results 0 28 0 (.tr 23 7):=⟨⟩
instance:GH Tryz.f142.results 2 7 0 (.tr 7 28):=⟨⟩
instance (x2:Int) (r2:(List (List Int))):LH (R:=(List (List Int))) (zHQ x2 r2) [0,2,13,14] [] (fun s1 => [(7,L 1 (Ro lV) s1.1),(15,I s1.2)]) (.xe 0 [2,13,14] fun r10 => [(7,L 1 (Ro lV) r10)]):=⟨⟩
instance t_ar:FI Tryz.prog 142 (∀ (x0:Int) (x1:List (List Int)) (x2:Int),FnK Tryz.prog 142 [I x0,T.ro (lM x1),I x2] (fun r:(List (List Int)) => [lM r]) (fun _ => []) (zTy x0 x1 x2)):=⟨Tryz.call142,fun x0 x1 x2 => iF Tryz.func142⟩
instance t_bw:FI Tryz.prog 120 (∀ (x0:zV),FnK Tryz.prog 120 [sE x0] (fun r:zV => [zAJ r]) (fun _ => []) (zV6 x0)):=⟨Tryz.call120,fun x0 => iF Tryz.func120⟩
instance t_bu:FI Tryz.prog 163 (∀ (x0:Int),FnK Tryz.prog 163 [I x0] (fun r:Bool => [B r]) (fun _ => []) (zTu x0)):=⟨Tryz.call163,fun x0 => iF Tryz.func163⟩
instance (x0:List Int):LH (R:=Int) (zHO x0) [0,1,7] [] (fun s1 => [(8,I s1)]) (.xs (.xe 0 [0,1,7] fun _ => []) .xr):=⟨⟩
instance t_ao:FJ Tryz.prog 116 163 (∀ (x0:List Int),FnK Tryz.prog 116 [T.ro (lV x0),T.lit (.func (.func 163) #[] #[])] (fun r:Int => [I r]) (fun _ => []) (zTv x0)):=⟨Tryz.call116,fun x0 => iF Tryz.func116⟩
instance (x0:List (List Int)):LH (R:=(List Int)) (zKD x0) [6,7] [] (fun s1 => [(3,L 1 I s1.1),(8,I s1.2)]) (.xe 0 [6,7] fun r5 => [(3,L 1 I r5)]):=⟨⟩
instance t_aF:FI Tryz.prog 147 (∀ (x0:List (List Int)),FnK Tryz.prog 147 [T.ro (lM x0)] (fun r:(List Int) => [lV r]) (fun _ => []) (zTw x0)):=⟨Tryz.call147,fun x0 => iF Tryz.func147⟩
instance (x0:zV) (r2:(List Int)):LH (R:=(List Int)) (zHP x0 r2) [2,12,13] [] (fun s1 => [(5,L 1 I s1.1),(14,I s1.2)]) (.xe 0 [2,12,13] fun r9 => [(5,L 1 I r9)]):=⟨⟩
instance t_aa:FI Tryz.prog 119 (∀ (x0:zV) (x1:List Int),FnK Tryz.prog 119 [sE x0,T.ro (lV x1)] (fun r:(List Int) => [lV r]) (fun _ => []) (zTx x0 x1)):=⟨Tryz.call119,fun x0 x1 => iF Tryz.func119⟩
end
theorem u_z (x0:zV) (x1:List Int) (r:(List Int) × Bool) (h:f_z x0 x1 = some r):FnC Tryz.prog 70 [sE x0,T.ro (lV x1)] [lV r.1,B r.2] []:=by
 refine fB Tryz.func70 (fun St W w0 v => ?_)
 refine sR (zFN ?_)
 refine oP (zC4 1 rfl) ?_
 refine yJ ?_
 refine rN (sR (zAU ?_))
 refine zBv ?_
 refine yJ ?_
 refine rN (CW.seq ?_)
 obtain ⟨r1,hr1,h⟩:=bd h
 obtain ⟨v2,hv2,h⟩:=bd h
 refine CW.dk ?_
 refine yN [(1,_)] ?_
 refine dC [(15,_)] Tryz.call114 (FnK.go (t_x.h _) hr1) ?_
 refine zA8 [(2,_)] ?_
 refine sW [(17,_),(2,_)] ?_
 refine zLc [(18,_)] ?_
 refine dG [(16,_),(19,_)] [([(20,some (L 1 I v2)),(16,some T.any)],[(20,0),(16,1)])] ⟨rfl,rfl,trivial⟩ (fun E h => zQ.opE (zKW (f:=I) (z:=0) elt_22 Tryz.underlying3 (rfl) hv2 h.1 h.2.1 rfl) rfl) ?_
 refine zDx [(20,_)] ?_
 refine dNA xR ?_
 refine nA (CW.ghost (zL.tr 7 20 _ rfl rfl (zG (zK (Enc.clean (f:=I)))) rfl) ?_)
 refine CW.seq (CW.seq ?_)
 obtain ⟨r3,hr3,h⟩:=bd h
 obtain ⟨r4,hr4,h⟩:=bd h
 refine CW.dk ?_
 refine zA8 [(2,_)] ?_
 refine sW [(21,_),(2,_)] ?_
 refine zA8 [(2,_)] ?_
 refine sW [(23,_),(2,_)] ?_
 refine dC [(24,_)] Tryz.call115 (FnK.go (t_ab.h _) hr3) ?_
 refine dC [(22,_),(25,_)] Tryz.call104 (FnK.go (t_g.h _ _) hr4) ?_
 refine zVN [(26,_)] ?_
 refine yN [] ?_
 refine dNA xR ?_
 refine nA (CW.block ?_)
 obtain ⟨r12,hr12,h⟩:=bd h
 refine CW.lp (s:=(v2,0)) (zO6 x0 r4) (fun s1:(List Int) × Int => xK [(2,T.ptr (sE x0)),(6,I x0.xT),(7,L 1 I s1.1),(26,L 1 lV r4),(27,I (r4.length:Int)),(28,I s1.2)]) (fun (r12:(List Int)) e E => e = .exit 0 ∧ zL ⟨St,W,w0,Tryz.f70.ntmps⟩ E (xK [(2,T.ptr (sE x0)),(6,I x0.xT),(7,L 1 I r12)])) (.has ⟨rfl,rfl,rfl,rfl,rfl,rfl,trivial⟩) (fun s1 x h => ?_) hr12 (fun e E hq => ?_)
 refine sR (vH ?_)
 refine rN (CW.seq (cn h (fun hc h => ?_) (fun hc h => ?_)))
 refine CW.skip (nA (CW.seq (CW.block (sR ?_))))
 obtain ⟨v5,hv5,h⟩:=bd h
 refine zLa ?_
 refine zBv ?_
 refine yJ ?_
 refine rN (sR (zR ?_))
 obtain ⟨r6,hr6,h⟩:=bd h
 refine cA Tryz.call116 (FnK.go (t_ac.h _) hr6) ?_
 refine yJ ?_
 refine rN (sR (zR ?_))
 refine zR ?_
 refine vH ?_
 refine rN (cn h (fun hc h => ?_) (fun hc h => ?_))
 obtain ⟨v7,hv7,h⟩:=bd h
 obtain ⟨v8,hv8,h⟩:=bd h
 obtain ⟨r9,hr9,h⟩:=bd h
 refine CW.dk ?_
 refine yN [(7,_)] ?_
 refine yN [(9,_)] ?_
 refine yN [(7,_)] ?_
 refine yN [(10,_)] ?_
 refine zER [(39,_),(7,_),(40,_)] ?_
 refine sW [(41,_),(7,_)] ?_
 refine zP8 [(42,_)] ?_
 refine zA8 [(2,_)] ?_
 refine sW [(44,_),(2,_)] ?_
 refine dG [(37,_),(7,_),(38,_),(26,_),(43,_),(45,_)] [([(37,some (L 1 I s1.1)),(7,some (T.same 37 []))],[(37,1),(7,1)]),([(46,some (T.tup [])),(37,some (L 1 I r9))],[(46,0),(37,1)]),([(7,some (L 1 I r9)),(37,some (T.same 7 []))],[(7,1),(37,1)])] ⟨rfl,rfl,rfl,rfl,rfl,rfl,trivial⟩ (fun E h => zQ.opE (zAd (xs:=[.tmp 37,.tmp 38,.tmp 43,.tmp 45]) 0 37 7 [] Tryz.call69 (t_v.h _ _ _ _ _ hr9) h.1 h.2.1 rfl (zG (zK (Enc.clean (f:=I)))) (zG (zK (Enc.clean (f:=I)))) (Enc.rofree (f:=L 1 I) _) (Enc.rofree (f:=L 1 I) _) ⟨(zEP rfl (zG (zK (Enc.clean (f:=I)))) (Enc.rofree (f:=L 1 I) _)),⟨(agM _ (zED h.2.2.1) (tT (zPB h.2.2.2.1) (zM hv5 rfl) inferInstance) (zP9 (zPB h.2.2.2.1) (zM hv5 rfl) rfl rfl)),⟨(agM _ (zED h.2.2.2.2.1) rfl rfl),⟨(agM _ (zED h.2.2.2.2.2.1) rfl rfl),trivial⟩⟩⟩⟩ wL rfl rfl rfl rfl) rfl) ?_
 refine dNA xR ?_
 refine nB (nA (CW.region ?_))
 obtain ⟨v10,hv10,h⟩:=bd h
 refine uA ?_
 refine zR ?_
 refine RW.nil ?_
 exact eN h
 refine CW.skip (nB (nA (CW.region ?_)))
 obtain ⟨v11,hv11,h⟩:=bd h
 refine uA ?_
 refine zR ?_
 refine RW.nil ?_
 exact eN h
 refine CW.exit (xA ?_)
 exact eX h
 obtain ⟨rfl,hg⟩:=hq
 refine xB ?_
 refine nA (CW.ghost hg ?_)
 refine CW.seq (sR (zR ?_))
 refine zR ?_
 obtain ⟨v13,hv13,h⟩:=bd h
 refine oP (zJl row_22 hv13 (uJ rfl rfl rfl rfl) zTH (zPo (zEf hv13) rfl) rfl) ?_
 obtain ⟨r14,hr14,h⟩:=bd h
 refine oP (yV (xs:=[.tmp 50]) Tryz.call118 (FnK.go (t_E.h _) hr14) ⟨(agC _ rfl (zIn rfl rfl inferInstance hv13) rfl),trivial⟩ (wN (f:=B) inferInstance wL) rfl) ?_
 refine zJz ?_
 refine rN (cn h (fun hc h => ?_) (fun hc h => ?_))
 refine sR (oP (zC4 1 rfl) ?_)
 refine yJ ?_
 refine rN (CW.ret (rA ?_))
 obtain rfl:=sI h
 exact rT
 refine CW.skip (nA (sR (zR ?_)))
 refine zR ?_
 obtain ⟨v15,hv15,h⟩:=bd h
 refine oP (zJl row_22 hv15 (uJ rfl rfl rfl rfl) (zPo (zEe hv15) rfl) zUw rfl) ?_
 refine yJ ?_
 refine rN (CW.seq (sR (zR ?_)))
 refine oP (zPr Tryz.underlying22 rfl rfl rfl rfl) ?_
 refine zR ?_
 refine rN (CW.block ?_)
 obtain ⟨r23,hr23,h⟩:=bd h
 refine CW.lp (s:=(r12,0)) (zO7 x0 r12) (fun s3:(List Int) × Int => xK [(2,T.ptr (sE x0)),(7,L 1 I s3.1),(11,T.sub 7 [] 1 ((x0.xT:Int).toNat) ((r12.length:Int).toNat)),(57,I (((r12.length:Int).toNat - (x0.xT:Int).toNat:Nat):Int)),(58,I s3.2)]) (fun (r23:(List Int)) e E => e = .exit 2 ∧ zL ⟨St,W,w0,Tryz.f70.ntmps⟩ E (xK [(2,T.ptr (sE x0)),(7,L 1 I r23),(11,T.sub 7 [] 1 ((x0.xT:Int).toNat) ((r12.length:Int).toNat))])) (.has ⟨rfl,rfl,rfl,rfl,rfl,trivial⟩) (fun s3 x h => ?_) hr23 (fun e E hq => ?_)
 refine sR (vH ?_)
 refine rN (CW.seq (cn h (fun hc h => ?_) (fun hc h => ?_)))
 refine CW.skip (nA (CW.seq (CW.block (sR (zR ?_)))))
 refine yJ ?_
 refine rN ?_
 obtain ⟨v16,hv16,h⟩:=bd h
 obtain ⟨v17,hv17,h⟩:=bd h
 obtain ⟨v18,hv18,h⟩:=bd h
 obtain ⟨r19,hr19,h⟩:=bd h
 obtain ⟨v20,hv20,h⟩:=bd h
 obtain ⟨v21,hv21,h⟩:=bd h
 refine CW.dk ?_
 refine yN [(11,_)] ?_
 refine yN [(12,_)] ?_
 refine yN [(11,_)] ?_
 refine yN [(12,_)] ?_
 refine dG [(63,_),(7,_),(64,_)] [([(65,some (T.addr 7 [(x0.xT + s3.2).toNat]))],[(65,0)])] ⟨rfl,rfl,rfl,trivial⟩ (fun E h => zQ.opE (zMO (f:=I) row_22 hv16 hv17 h.1 h.2.1 rfl h.2.2.1 rfl) rfl) ?_
 refine dG [(65,_),(7,_)] [([(66,some (I v17))],[(66,0)])] ⟨rfl,rfl,trivial⟩ (fun E h => zQ.opE (zEO (var_2.h _ rfl rfl) h.1 h.2.1 (zM (zPD hv16 hv17) rfl) rfl) rfl) ?_
 refine zP8 [(66,_)] ?_
 refine zA8 [(2,_)] ?_
 refine sW [(68,_),(2,_)] ?_
 refine dC [(67,_),(69,_)] Tryz.call113 (FnK.go (t_aj.h _ _) hr19) ?_
 refine dG [(61,_),(7,_),(62,_)] [([(71,some (T.addr 7 [(x0.xT + s3.2).toNat]))],[(71,0)])] ⟨rfl,rfl,rfl,trivial⟩ (fun E h => zQ.opE (zMO (f:=I) row_22 hv20 hv21 h.1 h.2.1 rfl h.2.2.1 rfl) rfl) ?_
 refine dG [(71,_),(7,_),(70,_)] [([(7,some (L 1 I (s3.1.set (x0.xT + s3.2).toNat r19)))],[(7,1)])] ⟨rfl,rfl,rfl,trivial⟩ (fun E h => zQ.opE (zCR zDM rfl h.1 h.2.1 (zM (zPD hv20 hv21) rfl) (kL (zPD hv20 hv21) rfl) h.2.2.1 (zG (Enc.clean (f:=I) _)) rfl) rfl) ?_
 refine dNA xR ?_
 refine nB (nA (CW.region ?_))
 obtain ⟨v22,hv22,h⟩:=bd h
 refine uA ?_
 refine zR ?_
 refine RW.nil ?_
 exact eN h
 refine CW.exit (xA ?_)
 exact eX h
 obtain ⟨rfl,hg⟩:=hq
 refine xB ?_
 refine nA (CW.ghost hg ?_)
 refine sR (tJ ?_)
 obtain ⟨r24,hr24,h⟩:=bd h
 refine cA Tryz.call120 (FnK.go (t_bw.h _) hr24) ?_
 refine zR ?_
 obtain ⟨v25,hv25,h⟩:=bd h
 obtain ⟨r26,hr26,h⟩:=bd h
 refine oP (yV (xs:=[.tmp 74,.tmp 75]) Tryz.call119 (FnK.go (t_aa.h _ _) hr26) ⟨(agC _ rfl (kM (wS rfl (wS rfl (wS (tO inferInstance) kN)))) rfl),⟨(agC _ rfl (zIn rfl rfl inferInstance hv25) rfl),trivial⟩⟩ (wN (f:=lV) inferInstance wL) rfl) ?_
 refine yJ ?_
 refine yJ ?_
 refine RW.ghost (zL.tr 4 76 _ rfl rfl (zG (zK (Enc.clean (f:=I)))) rfl) ?_
 refine rN (CW.ret ?_)
 obtain rfl:=sI h
 exact rT
instance t_z:FI Tryz.prog 70 (∀ (x0:zV) (x1:List Int),FnK Tryz.prog 70 [sE x0,T.ro (lV x1)] (fun r:(List Int) × Bool => [lV r.1,B r.2]) (fun _ => []) (f_z x0 x1)):=⟨Tryz.call70,fun x0 x1 => FnK.mk (u_z x0 x1)⟩
section
attribute [local irreducible] RW CW DK OkL Ok wA wG vV vW XS.post rng tV uQ ixO zX xQ vR yZ zH GTo zL FnC FnK uR qH Kp Lk BsL BuL RpL Bk Lc
instance:GHs Tryz.f39.results:=⟨⟩
instance:GH Tryz.f39.results 2 4 0 (.tr 8 19):=⟨⟩
instance:GH Tryz.f39.results 0 35 0 (.fz 34):=⟨⟩
instance:GH Tryz.f39.results 2 6 0 (.trq 9 37 [0]):=⟨⟩
instance t_bA:FI Tryz.prog 39 (∀ (x0:SPr) (x1:zC) (x2:List Int),FnK Tryz.prog 39 [T.ro ((Pt xS) x0),T.ro ((Pt yB) x1),T.ro (lV x2)] (fun r:(List (List Int)) × Bool => [lM r.1,B r.2]) (fun _ => []) (zT4 x0 x1 x2)):=⟨Tryz.call39,fun x0 x1 x2 => iF Tryz.func39⟩
instance (x0:List Int) (x1:List Int):LH (R:=Bool) (zR4 x0 x1) [0,1] [] (fun s1 => [(5,I s1)]) (.xs (.xe 0 [0,1] fun _ => []) .xr):=⟨⟩
instance t_aM:FI Tryz.prog 41 (∀ (x0:List Int) (x1:List Int),FnK Tryz.prog 41 [T.ro (lV x0),T.ro (lV x1)] (fun r:Bool => [B r]) (fun _ => []) (zR5 x0 x1)):=⟨Tryz.call41,fun x0 x1 => iF Tryz.func41⟩
instance (x0:List (List Int)) (x1:List (List Int)):LH (R:=Bool) (zV0 x0 x1) [0,1] [] (fun s1 => [(5,I s1)]) (.xs (.xe 0 [0,1] fun _ => []) .xr):=⟨⟩
instance t_B:FI Tryz.prog 17 (∀ (x0:List (List Int)) (x1:List (List Int)),FnK Tryz.prog 17 [T.ro (lM x0),T.ro (lM x1)] (fun r:Bool => [B r]) (fun _ => []) (f_B x0 x1)):=⟨Tryz.call17,fun x0 x1 => iF Tryz.func17⟩
instance (x0:List (List (List Int))) (x1:List (List (List Int))):LH (R:=Bool) (zR6 x0 x1) [0,1] [] (fun s1 => [(5,I s1)]) (.xs (.xe 0 [0,1] fun _ => []) .xr):=⟨⟩
instance t_aV:FI Tryz.prog 42 (∀ (x0:List (List (List Int))) (x1:List (List (List Int))),FnK Tryz.prog 42 [T.ro (lC x0),T.ro (lC x1)] (fun r:Bool => [B r]) (fun _ => []) (zTd x0 x1)):=⟨Tryz.call42,fun x0 x1 => iF Tryz.func42⟩
instance t_bd:FI Tryz.prog 15 (∀ (x0:SPr) (x1:SPr),FnK Tryz.prog 15 [qPr x0,qPr x1] (fun r:Bool => [B r]) (fun _ => []) (zTf x0 x1)):=⟨Tryz.call15,fun x0 x1 => iF Tryz.func15⟩
instance t_bc:FI Tryz.prog 16 (∀ (x0:zC) (x1:zC),FnK Tryz.prog 16 [wB x0,wB x1] (fun r:Bool => [B r]) (fun _ => []) (zTe x0 x1)):=⟨Tryz.call16,fun x0 x1 => iF Tryz.func16⟩
instance t_bF:FI Tryz.prog 43 (∀ (x0:SPr) (x1:zC) (x2:List (List Int)) (x3:List (List Int)),FnK Tryz.prog 43 [qPr x0,wB x1,T.ro (lM x2),T.ro (lM x3)] (fun r:(List (List Int)) × Bool => [lM r.1,B r.2]) (fun _ => []) (zV8 x0 x1 x2 x3)):=⟨Tryz.call43,fun x0 x1 x2 x3 => iF Tryz.func43⟩
instance t_a8:FI Tryz.prog 18 (∀ (x0:SPr) (x1:zC) (x2:List (List Int)) (x3:List (List Int)),FnK Tryz.prog 18 [qPr x0,wB x1,T.ro (lM x2),T.ro (lM x3)] (fun r:(List (List Int)) × Int => [lM r.1,I r.2]) (fun _ => []) (zRW x0 x1 x2 x3)):=⟨Tryz.call18,fun x0 x1 x2 x3 => iF Tryz.func18⟩
instance t_bG:FI Tryz.prog 44 (∀ (x0:zC) (x1:List (List Int)) (x2:List (List Int)),FnK Tryz.prog 44 [T.ro ((Pt yB) x0),T.ro (lM x1),T.ro (lM x2)] (fun r:(List Int) => [lV r]) (fun _ => []) (zV7 x0 x1 x2)):=⟨Tryz.call44,fun x0 x1 x2 => iF Tryz.func44⟩
instance t_a3:FI Tryz.prog 19 (∀ (x0:SPr) (x1:zC) (x2:List (List Int)) (x3:List (List Int)),FnK Tryz.prog 19 [qPr x0,wB x1,T.ro (lM x2),T.ro (lM x3)] (fun r:(List (List Int)) × Int => [lM r.1,I r.2]) (fun _ => []) (zO8 x0 x1 x2 x3)):=⟨Tryz.call19,fun x0 x1 x2 x3 => iF Tryz.func19⟩
instance  : LH (R:=Int × (List Int)) zNx [] [] (fun s1 => [(0,L 1 I s1.1),(1,I s1.2.1),(5,I s1.2.2)]) (.xe 0 [] fun r4 => [(0,L 1 I r4.1),(1,I r4.2)]):=⟨⟩
instance t_af:FI Tryz.prog 45 (∀ (x0:List Int) (x1:Int),FnK Tryz.prog 45 [L 1 I x0,I x1] (fun r:Int × (List Int) => [I r.1]) (fun r => [(0,lV r.2)]) (zOp x0 x1)):=⟨Tryz.call45,fun x0 x1 => iF Tryz.func45⟩
instance  : LH (R:=Int × (List (List Int))) zV1 [] [] (fun s1 => [(0,L 1 lV s1.1),(1,I s1.2.1),(5,I s1.2.2)]) (.xe 0 [] fun r4 => [(0,L 1 lV r4.1),(1,I r4.2)]):=⟨⟩
instance t_L:FI Tryz.prog 22 (∀ (x0:List (List Int)) (x1:Int),FnK Tryz.prog 22 [L 1 lV x0,I x1] (fun r:Int × (List (List Int)) => [I r.1]) (fun r => [(0,lM r.2)]) (f_L x0 x1)):=⟨Tryz.call22,fun x0 x1 => iF Tryz.func22⟩
instance  : LH (R:=Int × (List (List (List Int)))) zR7 [] [] (fun s1 => [(0,L 1 lM s1.1),(1,I s1.2.1),(5,I s1.2.2)]) (.xe 0 [] fun r4 => [(0,L 1 lM r4.1),(1,I r4.2)]):=⟨⟩
instance t_aN:FI Tryz.prog 46 (∀ (x0:List (List (List Int))) (x1:Int),FnK Tryz.prog 46 [L 1 lM x0,I x1] (fun r:Int × (List (List (List Int))) => [I r.1]) (fun r => [(0,lC r.2)]) (zR8 x0 x1)):=⟨Tryz.call46,fun x0 x1 => iF Tryz.func46⟩
instance:GHs Tryz.f20.results:=⟨⟩
instance:GH Tryz.f20.results 2 4 0 (.trf 0 0 2 [0,0]):=⟨⟩
instance:GH Tryz.f20.results 2 4 1 (.trf 0 1 2 [1,0]):=⟨⟩
instance:GH Tryz.f20.results 2 4 2 (.trf 0 2 2 [2,0]):=⟨⟩
instance t_bn:FI Tryz.prog 20 (∀ (x0:SPr) (x1:Int),FnK Tryz.prog 20 [xS x0,I x1] (fun r:Int × SPr => [I r.1]) (fun r => [(0,xS r.2)]) (zTg x0 x1)):=⟨Tryz.call20,fun x0 x1 => iF Tryz.func20⟩
instance:GHs Tryz.f21.results:=⟨⟩
instance:GH Tryz.f21.results 2 2 0 (.trf 0 2 2 [2,0]):=⟨⟩
instance t_be:FI Tryz.prog 21 (∀ (x0:zC) (x1:Int),FnK Tryz.prog 21 [yB x0,I x1] (fun r:Int × zC => [I r.1]) (fun r => [(0,yB r.2)]) (zTh x0 x1)):=⟨Tryz.call21,fun x0 x1 => iF Tryz.func21⟩
instance (x0:List Int):LH (R:=Int) (zKz x0) [0] [] (fun s1 => [(1,I s1.1),(5,I s1.2)]) (.xs (.xe 0 [0] fun r4 => [(1,I r4)]) .xr):=⟨⟩
instance t_ag:FI Tryz.prog 47 (∀ (x0:List Int) (x1:Int),FnK Tryz.prog 47 [T.ro (lV x0),I x1] (fun r:Int => [I r]) (fun _ => []) (zR9 x0 x1)):=⟨Tryz.call47,fun x0 x1 => iF Tryz.func47⟩
instance (x0:List (List Int)):LH (R:=Int) (zRA x0) [0] [] (fun s1 => [(1,I s1.1),(5,I s1.2)]) (.xs (.xe 0 [0] fun r4 => [(1,I r4)]) .xr):=⟨⟩
instance t_av:FI Tryz.prog 23 (∀ (x0:List (List Int)) (x1:Int),FnK Tryz.prog 23 [T.ro (lM x0),I x1] (fun r:Int => [I r]) (fun _ => []) (zTi x0 x1)):=⟨Tryz.call23,fun x0 x1 => iF Tryz.func23⟩
end
end Go.Wk

namespace Go.Wk
open Go Go.Proofs Go.Ab
set_option maxRecDepth 100000
set_option maxHeartbeats 4000000
theorem zYa (x0:SPr) (x1:zC) (x2:List (List Int)) (x3:List (List Int)) (r:Bool) (h:zRX x0 x1 x2 x3 = some r):FnC Tryz.prog 4 [qPr x0,wB x1,T.ro (lM x2),T.ro (lM x3)] [B r] []:=by
 refine fB Tryz.func4 (fun St W w0 v => ?_)
 refine sR (zFN ?_)
 refine zFN ?_
 refine yJ ?_
 refine rN (sR (yJ ?_))
 refine rN (sR (tJ ?_))
 refine zR ?_
 obtain ⟨r1,hr1,h⟩:=bd h
 refine cA Tryz.call7 (FnK.go (t_ba.h _ _) hr1) ?_
 refine yJ ?_
 refine rN (CW.seq (sR (zR ?_)))
 refine vH ?_
 refine rN (cn h (fun hc h => ?_) (fun hc h => ?_))
 refine sR (yJ ?_)
 refine rN (CW.ret (rA ?_))
 obtain rfl:=sI h
 exact rT
 refine CW.skip (nA (sR (tJ ?_)))
 refine zR ?_
 obtain ⟨r2,hr2,h⟩:=bd h
 refine cA Tryz.call8 (FnK.go (t_bb.h _ _) hr2) ?_
 refine yJ ?_
 refine rN (CW.seq (sR (zR ?_)))
 refine vH ?_
 refine rN (cn h (fun hc h => ?_) (fun hc h => ?_))
 refine sR (yJ ?_)
 refine rN (CW.ret (rA ?_))
 obtain rfl:=sI h
 exact rT
 refine CW.skip (nA (sR (zR ?_)))
 refine zR ?_
 obtain ⟨r3,hr3,h⟩:=bd h
 refine cA Tryz.call9 (FnK.go (t_ae.h _ _) hr3) ?_
 refine yJ ?_
 refine rN (CW.seq (sR (zR ?_)))
 refine vH ?_
 refine rN (cn h (fun hc h => ?_) (fun hc h => ?_))
 refine sR (yJ ?_)
 refine rN (CW.ret (rA ?_))
 obtain rfl:=sI h
 exact rT
 refine CW.skip (nA (sR (zR ?_)))
 refine zR ?_
 obtain ⟨r4,hr4,h⟩:=bd h
 refine cA Tryz.call9 (FnK.go (t_ae.h _ _) hr4) ?_
 refine yJ ?_
 refine rN (CW.seq (CW.seq (CW.to [(2,T.ro (lM x2)),(3,T.ro (lM x3)),(4,T.ptr (qPr x0)),(5,T.ptr (wB x1)),(9,I r4)] ⟨rfl,rfl,rfl,rfl,rfl,trivial⟩ ?_)))
 refine CW.region (zR ?_)
 refine vH ?_
 refine rN (cn h (fun hc h => ?_) (fun hc h => ?_))
 refine sR (yJ ?_)
 refine rN (CW.ret (rA ?_))
 obtain rfl:=sI h
 exact rT
 refine CW.skip (nA (CW.seq ?_))
 obtain ⟨r5,hr5,h⟩:=bd h
 obtain ⟨r6,hr6,h⟩:=bd h
 obtain ⟨r7,hr7,h⟩:=bd h
 obtain ⟨r8,hr8,h⟩:=bd h
 obtain ⟨r9,hr9,h⟩:=bd h
 refine CW.dk ?_
 refine wK [(4,_)] ?_
 refine dG [(44,_)] [([(45,some (xS r5))],[(45,0)])] ⟨rfl,trivial⟩ (fun E h => zQ.opE (yV (xs:=[.tmp 44]) Tryz.call11 (FnK.go (t_ah.h _) hr5) ⟨(agC _ h.1 rfl rfl),trivial⟩ (wN (f:=xS) inferInstance wL) rfl) rfl) ?_
 refine wK [(5,_)] ?_
 refine dG [(46,_)] [([(47,some (yB r6))],[(47,0)])] ⟨rfl,trivial⟩ (fun E h => zQ.opE (yV (xs:=[.tmp 46]) Tryz.call12 (FnK.go (t_ai.h _) hr6) ⟨(agC _ h.1 rfl rfl),trivial⟩ (wN (f:=yB) inferInstance wL) rfl) rfl) ?_
 refine yN [(2,_)] ?_
 refine dG [(48,_)] [([(49,some (L 1 lV r7))],[(49,0)])] ⟨rfl,trivial⟩ (fun E h => zQ.opE (yV (xs:=[.tmp 48]) Tryz.call13 (FnK.go (t_p.h _) hr7) ⟨(agC _ h.1 rfl rfl),trivial⟩ (wN (f:=lM) inferInstance wL) rfl) rfl) ?_
 refine yN [(3,_)] ?_
 refine dG [(50,_)] [([(51,some (L 1 lV r8))],[(51,0)])] ⟨rfl,trivial⟩ (fun E h => zQ.opE (yV (xs:=[.tmp 50]) Tryz.call13 (FnK.go (t_p.h _) hr8) ⟨(agC _ h.1 rfl rfl),trivial⟩ (wN (f:=lM) inferInstance wL) rfl) rfl) ?_
 refine dG [(45,_),(47,_),(49,_),(51,_)] [([(52,some (T.tup [L 1 lV r9.1,I r9.2]))],[(52,0)])] ⟨rfl,rfl,rfl,rfl,trivial⟩ (fun E h => zQ.opE (yV (xs:=[.tmp 45,.tmp 47,.tmp 49,.tmp 51]) Tryz.call18 (FnK.go (t_a8.h _ _ _ _) hr9) ⟨(agC _ h.1 (kM (wS (tO inferInstance) (wS (tO inferInstance) (wS (tO inferInstance) kN)))) rfl),⟨(agC _ h.2.1 (kM (wS rfl (wS rfl (wS (tO inferInstance) kN)))) rfl),⟨(agC _ h.2.2.1 (tO inferInstance) rfl),⟨(agC _ h.2.2.2.1 (tO inferInstance) rfl),trivial⟩⟩⟩⟩ (wN (f:=lM) inferInstance (wN (f:=I) inferInstance wL)) rfl) rfl) ?_
 refine zTS [(52,_)] ?_
 refine zMJ [(43,_)] ?_
 refine zMJ [(43,_)] ?_
 refine zDx [(53,_)] ?_
 refine zDx [(54,_)] ?_
 refine dNA xR ?_
 refine nA (CW.ghost (zL.trq 10 52 [0] rfl rfl rfl (zG (zK (Enc.clean (f:=lV)))) rfl) ?_)
 refine sR (tJ ?_)
 obtain ⟨r10,hr10,h⟩:=bd h
 refine oP (yV (xs:=[.tmp 55]) Tryz.call11 (FnK.go (t_ah.h _) hr10) ⟨(agC _ rfl rfl rfl),trivial⟩ (wN (f:=xS) inferInstance wL) rfl) ?_
 refine tD ?_
 refine oP (vZ zE1 rfl (wT rfl rfl) rfl rfl rfl rfl (zG (xU ⟨(zK (Enc.clean (f:=I))),(zK (Enc.clean (f:=lV))),(zK (Enc.clean (f:=lM))),trivial⟩)) rfl) ?_
 refine rN (sR (tJ ?_))
 obtain ⟨r11,hr11,h⟩:=bd h
 refine oP (yV (xs:=[.tmp 57]) Tryz.call12 (FnK.go (t_ai.h _) hr11) ⟨(agC _ rfl rfl rfl),trivial⟩ (wN (f:=yB) inferInstance wL) rfl) ?_
 refine tD ?_
 refine oP (vZ zRZ rfl (wT rfl rfl) rfl rfl rfl rfl (zG (xU ⟨(Enc.clean (f:=I) _),(Enc.clean (f:=I) _),(zK (Enc.clean (f:=lM))),trivial⟩)) rfl) ?_
 refine rN (CW.seq (CW.to [(2,T.ro (lM x2)),(3,T.ro (lM x3)),(4,T.ptr (qPr x0)),(5,T.ptr (wB x1)),(10,L 1 lV r9.1),(11,I r9.2),(12,T.ptr (xS r10)),(13,T.ptr (yB r11))] ⟨rfl,rfl,rfl,rfl,rfl,rfl,rfl,rfl,trivial⟩ ?_))
 refine CW.region (zR ?_)
 obtain ⟨r12,hr12,h⟩:=bd h
 refine oP (yV (xs:=[.tmp 59]) Tryz.call13 (FnK.go (t_p.h _) hr12) ⟨(agC _ rfl rfl rfl),trivial⟩ (wN (f:=lM) inferInstance wL) rfl) ?_
 refine yJ ?_
 refine RW.ghost (zL.tr 14 60 _ rfl rfl (zG (zK (Enc.clean (f:=lV)))) rfl) ?_
 refine rN (sR (zR ?_))
 obtain ⟨r13,hr13,h⟩:=bd h
 refine oP (yV (xs:=[.tmp 61]) Tryz.call13 (FnK.go (t_p.h _) hr13) ⟨(agC _ rfl rfl rfl),trivial⟩ (wN (f:=lM) inferInstance wL) rfl) ?_
 refine yJ ?_
 refine RW.ghost (zL.tr 15 62 _ rfl rfl (zG (zK (Enc.clean (f:=lV)))) rfl) ?_
 refine rN (sR (tJ ?_))
 refine tJ ?_
 refine zR ?_
 refine zR ?_
 obtain ⟨r14,hr14,h⟩:=bd h
 refine oP (yV (xs:=[.tmp 64,.tmp 65,.tmp 66,.tmp 67]) Tryz.call19 (FnK.go (t_a3.h _ _ _ _) hr14) ⟨(agC _ rfl (kM (wS (tT rfl rfl inferInstance) (wS (tT rfl rfl inferInstance) (wS (tT rfl rfl inferInstance) kN)))) rfl),⟨(agC _ rfl (kM (wS rfl (wS rfl (wS (tT rfl rfl inferInstance) kN)))) rfl),⟨(agC _ rfl (tT rfl rfl inferInstance) rfl),⟨(agC _ rfl (tT rfl rfl inferInstance) rfl),trivial⟩⟩⟩⟩ (wN (f:=lM) inferInstance (wN (f:=I) inferInstance wL)) rfl) ?_
 refine zP5 ?_
 refine zHy ?_
 refine zHy ?_
 refine yJ ?_
 refine yJ ?_
 refine RW.ghost (zL.trq 16 68 [0] rfl rfl rfl (zG (zK (Enc.clean (f:=lV)))) rfl) ?_
 refine rN (CW.seq (sR (zR ?_)))
 refine zR ?_
 obtain ⟨r15,hr15,h⟩:=bd h
 refine oP (yV (xs:=[.tmp 71,.tmp 72]) Tryz.call17 (FnK.go (t_B.h _ _) hr15) ⟨(agC _ rfl (tT rfl rfl inferInstance) rfl),⟨(agC _ rfl (tT rfl rfl inferInstance) rfl),trivial⟩⟩ (wN (f:=B) inferInstance wL) rfl) ?_
 refine zJz ?_
 refine zR ?_
 refine RW.cases 75 _ rfl (fun hc => ?_) (fun hc => ?_)
 have h:=cT hc h
 refine sk2 ?_
 refine sk2 ?_
 refine sk2 ?_
 refine uB ?_
 refine rN (CW.condT rfl ?_)
 refine CW.seq (CW.to [] trivial ?_)
 refine CW.region (yJ ?_)
 refine rN (CW.ret (rA ?_))
 obtain rfl:=sI h
 exact rT
 have h:=cF hc h
 refine zBu ?_
 refine zBu ?_
 refine zP4 ?_
 refine uB ?_
 refine rN (cn h (fun hc h => ?_) (fun hc h => ?_))
 refine CW.seq (CW.to [] trivial ?_)
 refine CW.region (yJ ?_)
 refine rN (CW.ret (rA ?_))
 obtain rfl:=sI h
 exact rT
 refine CW.skip (nA (CW.seq (CW.seq (CW.to [(2,T.ro (lM x2)),(3,T.ro (lM x3)),(4,T.ptr (qPr x0)),(5,T.ptr (wB x1)),(10,L 1 lV r9.1),(11,I r9.2),(12,T.ptr (xS r10)),(13,T.ptr (yB r11)),(14,L 1 lV r12),(15,L 1 lV r13),(16,L 1 lV r14.1),(17,I r14.2)] ⟨rfl,rfl,rfl,rfl,rfl,rfl,rfl,rfl,rfl,rfl,rfl,rfl,trivial⟩ ?_))))
 obtain ⟨r16,hr16,h⟩:=bd h
 obtain ⟨r17,hr17,h⟩:=bd h
 refine CW.dk ?_
 refine wK [(12,_)] ?_
 refine wK [(4,_)] ?_
 refine dG [(81,_)] [([(82,some (xS r16))],[(82,0)])] ⟨rfl,trivial⟩ (fun E h => zQ.opE (yV (xs:=[.tmp 81]) Tryz.call11 (FnK.go (t_ah.h _) hr16) ⟨(agC _ h.1 rfl rfl),trivial⟩ (wN (f:=xS) inferInstance wL) rfl) rfl) ?_
 refine dG [(80,_),(12,_),(82,_)] [([(83,some (B r17))],[(83,0)])] ⟨rfl,rfl,rfl,trivial⟩ (fun E h => zQ.opE (yV (xs:=[.tmp 80,.tmp 82]) Tryz.call15 (FnK.go (t_bd.h _ _) hr17) ⟨(agC _ h.1 (kM (wS (tT h.2.1 rfl inferInstance) (wS (tT h.2.1 rfl inferInstance) (wS (tT h.2.1 rfl inferInstance) kN)))) rfl),⟨(agC _ h.2.2.1 (kM (wS (tO inferInstance) (wS (tO inferInstance) (wS (tO inferInstance) kN)))) rfl),trivial⟩⟩ (wN (f:=B) inferInstance wL) rfl) rfl) ?_
 refine zP7 [(83,_)] ?_
 refine dNA xR ?_
 refine nA (cn h (fun hc h => ?_) (fun hc h => ?_))
 refine sR (yJ ?_)
 refine rN (CW.ret (rA ?_))
 obtain rfl:=sI h
 exact rT
 refine CW.skip (nA (CW.seq (CW.seq ?_)))
 obtain ⟨r18,hr18,h⟩:=bd h
 obtain ⟨r19,hr19,h⟩:=bd h
 refine CW.dk ?_
 refine wK [(13,_)] ?_
 refine wK [(5,_)] ?_
 refine dG [(86,_)] [([(87,some (yB r18))],[(87,0)])] ⟨rfl,trivial⟩ (fun E h => zQ.opE (yV (xs:=[.tmp 86]) Tryz.call12 (FnK.go (t_ai.h _) hr18) ⟨(agC _ h.1 rfl rfl),trivial⟩ (wN (f:=yB) inferInstance wL) rfl) rfl) ?_
 refine dG [(85,_),(13,_),(87,_)] [([(88,some (B r19))],[(88,0)])] ⟨rfl,rfl,rfl,trivial⟩ (fun E h => zQ.opE (yV (xs:=[.tmp 85,.tmp 87]) Tryz.call16 (FnK.go (t_bc.h _ _) hr19) ⟨(agC _ h.1 (kM (wS rfl (wS rfl (wS (tT h.2.1 rfl inferInstance) kN)))) rfl),⟨(agC _ h.2.2.1 (kM (wS rfl (wS rfl (wS (tO inferInstance) kN)))) rfl),trivial⟩⟩ (wN (f:=B) inferInstance wL) rfl) rfl) ?_
 refine zP7 [(88,_)] ?_
 refine dNA xR ?_
 refine nA (cn h (fun hc h => ?_) (fun hc h => ?_))
 refine sR (yJ ?_)
 refine rN (CW.ret (rA ?_))
 obtain rfl:=sI h
 exact rT
 refine CW.skip (nA (CW.seq (sR (zR ?_))))
 refine zR ?_
 obtain ⟨r20,hr20,h⟩:=bd h
 refine oP (yV (xs:=[.tmp 91]) Tryz.call13 (FnK.go (t_p.h _) hr20) ⟨(agC _ rfl rfl rfl),trivial⟩ (wN (f:=lM) inferInstance wL) rfl) ?_
 obtain ⟨r21,hr21,h⟩:=bd h
 refine cA Tryz.call17 (FnK.go (t_B.h _ _) hr21) ?_
 refine zJz ?_
 refine rN (cn h (fun hc h => ?_) (fun hc h => ?_))
 refine sR (yJ ?_)
 refine rN (CW.ret (rA ?_))
 obtain rfl:=sI h
 exact rT
 refine CW.skip (nA (CW.seq (sR (zR ?_))))
 refine zR ?_
 obtain ⟨r22,hr22,h⟩:=bd h
 refine oP (yV (xs:=[.tmp 96]) Tryz.call13 (FnK.go (t_p.h _) hr22) ⟨(agC _ rfl rfl rfl),trivial⟩ (wN (f:=lM) inferInstance wL) rfl) ?_
 obtain ⟨r23,hr23,h⟩:=bd h
 refine cA Tryz.call17 (FnK.go (t_B.h _ _) hr23) ?_
 refine zJz ?_
 refine rN (cn h (fun hc h => ?_) (fun hc h => ?_))
 refine sR (yJ ?_)
 refine rN (CW.ret (rA ?_))
 obtain rfl:=sI h
 exact rT
 refine CW.skip (nA (sR (yJ ?_)))
 refine rN (sR (tJ ?_))
 refine zR ?_
 obtain ⟨r24,hr24,h⟩:=bd h
 refine oP (zMA (xs:=[.tmp 100,.tmp 101]) 0 100 12 [(0,[0,0]),(1,[1,0]),(2,[2,0])] 2 Tryz.call20 (t_bn.h _ _ _ hr24) (.cons 0 [0,0] _ _ _ _ _ rfl rfl rfl rfl (zG (zK (Enc.clean (f:=I)))) rfl rfl rfl (.cons 1 [1,0] _ _ _ _ _ rfl rfl rfl rfl (zG (zK (Enc.clean (f:=lV)))) rfl rfl rfl (.cons 2 [2,0] _ _ _ _ _ rfl rfl rfl rfl (zG (zK (Enc.clean (f:=lM)))) rfl rfl rfl (.nil _)))) rfl (Enc.clean (f:=xS) _) (Enc.rofree (f:=xS) _) ⟨(zEP rfl (Enc.clean (f:=xS) _) (Enc.rofree (f:=xS) _)),⟨(agM _ rfl rfl rfl),trivial⟩⟩ (wN (f:=I) inferInstance wL) (.cons 0 [0,0] _ _ _ _ _ _ rfl rfl rfl rfl (zG (zK (Enc.clean (f:=I)))) rfl rfl rfl (.cons 1 [1,0] _ _ _ _ _ _ rfl rfl rfl rfl (zG (zK (Enc.clean (f:=lV)))) rfl rfl rfl (.cons 2 [2,0] _ _ _ _ _ _ rfl rfl rfl rfl (zG (zK (Enc.clean (f:=lM)))) rfl rfl rfl (.nil _)))) rfl rfl rfl) ?_
 refine yJ ?_
 refine rN (CW.seq (CW.to [(2,T.ro (lM x2)),(3,T.ro (lM x3)),(4,T.ptr (qPr x0)),(5,T.ptr (wB x1)),(10,L 1 lV r9.1),(11,I r9.2),(13,T.ptr (yB r11)),(14,L 1 lV r12),(15,L 1 lV r13),(16,L 1 lV r14.1),(17,I r14.2),(18,I r24.1)] ⟨rfl,rfl,rfl,rfl,rfl,rfl,rfl,rfl,rfl,rfl,rfl,rfl,trivial⟩ ?_))
 refine CW.region (tJ ?_)
 refine zR ?_
 obtain ⟨r25,hr25,h⟩:=bd h
 refine oP (zMA (xs:=[.tmp 103,.tmp 104]) 0 103 13 [(2,[2,0])] 2 Tryz.call21 (t_be.h _ _ _ hr25) (.cons 2 [2,0] _ _ _ _ _ rfl rfl rfl rfl (zG (zK (Enc.clean (f:=lM)))) rfl rfl rfl (.nil _)) rfl (Enc.clean (f:=yB) _) (Enc.rofree (f:=yB) _) ⟨(zEP rfl (Enc.clean (f:=yB) _) (Enc.rofree (f:=yB) _)),⟨(agM _ rfl rfl rfl),trivial⟩⟩ (wN (f:=I) inferInstance wL) (.cons 2 [2,0] _ _ _ _ _ _ rfl rfl rfl rfl (zG (zK (Enc.clean (f:=lM)))) rfl rfl rfl (.nil _)) rfl rfl rfl) ?_
 refine yJ ?_
 refine rN (sR (zR ?_))
 refine zR ?_
 obtain ⟨r26,hr26,h⟩:=bd h
 refine oP (zAd (xs:=[.tmp 106,.tmp 107]) 0 106 14 [] Tryz.call22 (t_L.h _ _ _ hr26) rfl rfl rfl (zG (zK (Enc.clean (f:=lV)))) (zG (zK (Enc.clean (f:=lV)))) (Enc.rofree (f:=L 1 lV) _) (Enc.rofree (f:=L 1 lV) _) ⟨(zEP rfl (zG (zK (Enc.clean (f:=lV)))) (Enc.rofree (f:=L 1 lV) _)),⟨(agM _ rfl rfl rfl),trivial⟩⟩ (wN (f:=I) inferInstance wL) rfl rfl rfl rfl) ?_
 refine yJ ?_
 refine rN (sR (zR ?_))
 refine zR ?_
 obtain ⟨r27,hr27,h⟩:=bd h
 refine oP (zAd (xs:=[.tmp 109,.tmp 110]) 0 109 15 [] Tryz.call22 (t_L.h _ _ _ hr27) rfl rfl rfl (zG (zK (Enc.clean (f:=lV)))) (zG (zK (Enc.clean (f:=lV)))) (Enc.rofree (f:=L 1 lV) _) (Enc.rofree (f:=L 1 lV) _) ⟨(zEP rfl (zG (zK (Enc.clean (f:=lV)))) (Enc.rofree (f:=L 1 lV) _)),⟨(agM _ rfl rfl rfl),trivial⟩⟩ (wN (f:=I) inferInstance wL) rfl rfl rfl rfl) ?_
 refine yJ ?_
 refine rN (CW.seq (sR (zR ?_)))
 refine vH ?_
 refine zR ?_
 refine RW.cases 114 _ rfl (fun hc => ?_) (fun hc => ?_)
 have h:=cT hc h
 refine sk2 ?_
 refine sk2 ?_
 refine sk2 ?_
 refine sk2 ?_
 refine uB ?_
 refine zR ?_
 refine sk2 ?_
 refine sk2 ?_
 refine sk2 ?_
 refine uB ?_
 refine rN (CW.condT rfl ?_)
 refine CW.seq (CW.to [] trivial ?_)
 refine CW.region (yJ ?_)
 refine rN (CW.ret (rA ?_))
 obtain rfl:=sI h
 exact rT
 have h:=cF hc h
 refine zBu ?_
 refine zBu ?_
 obtain ⟨r28,hr28,h⟩:=bd h
 refine RW.cons (zQ.guard 2 false 114 (yV (xs:=[.tmp 115,.tmp 116]) Tryz.call17 (FnK.go (t_B.h _ _) hr28) ⟨(agC _ rfl (tT rfl rfl inferInstance) rfl),⟨(agC _ rfl (tT rfl rfl inferInstance) rfl),trivial⟩⟩ (wN (f:=B) inferInstance wL) rfl)) ?_
 refine zTN ?_
 refine uB ?_
 refine zR ?_
 refine RW.cases 120 _ rfl (fun hc => ?_) (fun hc => ?_)
 have h:=cT hc h
 refine sk2 ?_
 refine sk2 ?_
 refine sk2 ?_
 refine uB ?_
 refine rN (CW.condT rfl ?_)
 refine CW.seq (CW.to [] trivial ?_)
 refine CW.region (yJ ?_)
 refine rN (CW.ret (rA ?_))
 obtain rfl:=sI h
 exact rT
 have h:=cF hc h
 refine zBu ?_
 refine zBu ?_
 refine zP4 ?_
 refine uB ?_
 refine rN (cn h (fun hc h => ?_) (fun hc h => ?_))
 refine CW.seq (CW.to [] trivial ?_)
 refine CW.region (yJ ?_)
 refine rN (CW.ret (rA ?_))
 obtain rfl:=sI h
 exact rT
 refine CW.skip (nA (CW.seq (CW.to [(2,T.ro (lM x2)),(3,T.ro (lM x3)),(4,T.ptr (qPr x0)),(5,T.ptr (wB x1)),(10,L 1 lV r9.1),(11,I r9.2),(16,L 1 lV r14.1)] ⟨rfl,rfl,rfl,rfl,rfl,rfl,rfl,trivial⟩ ?_)))
 refine CW.region (yJ ?_)
 refine rN (sR (zR ?_))
 refine zR ?_
 obtain ⟨r29,hr29,h⟩:=bd h
 refine oP (zAd (xs:=[.tmp 125,.tmp 126]) 0 125 16 [] Tryz.call22 (t_L.h _ _ _ hr29) rfl rfl rfl (zG (zK (Enc.clean (f:=lV)))) (zG (zK (Enc.clean (f:=lV)))) (Enc.rofree (f:=L 1 lV) _) (Enc.rofree (f:=L 1 lV) _) ⟨(zEP rfl (zG (zK (Enc.clean (f:=lV)))) (Enc.rofree (f:=L 1 lV) _)),⟨(agM _ rfl rfl rfl),trivial⟩⟩ (wN (f:=I) inferInstance wL) rfl rfl rfl rfl) ?_
 refine yJ ?_
 refine rN (sR (yJ ?_))
 refine rN (sR (zR ?_))
 refine zR ?_
 obtain ⟨r30,hr30,h⟩:=bd h
 refine oP (yV (xs:=[.tmp 128,.tmp 129]) Tryz.call23 (FnK.go (t_av.h _ _) hr30) ⟨(agC _ rfl (tT rfl rfl inferInstance) rfl),⟨(agC _ rfl rfl rfl),trivial⟩⟩ (wN (f:=I) inferInstance wL) rfl) ?_
 refine yJ ?_
 refine rN (CW.seq (sR (zR ?_)))
 refine vH ?_
 refine rN (cn h (fun hc h => ?_) (fun hc h => ?_))
 refine sR (yJ ?_)
 refine rN (CW.ret (rA ?_))
 obtain rfl:=sI h
 exact rT
 refine CW.skip (nA (CW.seq (sR (zR ?_))))
 refine zR ?_
 refine zMF ?_
 refine rN (cn h (fun hc h => ?_) (fun hc h => ?_))
 refine sR (yJ ?_)
 refine rN (CW.ret (rA ?_))
 obtain rfl:=sI h
 exact rT
 refine CW.skip (nA (CW.seq ?_))
 obtain ⟨r31,hr31,h⟩:=bd h
 obtain ⟨r32,hr32,h⟩:=bd h
 obtain ⟨r33,hr33,h⟩:=bd h
 obtain ⟨r34,hr34,h⟩:=bd h
 obtain ⟨r35,hr35,h⟩:=bd h
 refine CW.dk ?_
 refine wK [(4,_)] ?_
 refine dG [(137,_)] [([(138,some (xS r31))],[(138,0)])] ⟨rfl,trivial⟩ (fun E h => zQ.opE (yV (xs:=[.tmp 137]) Tryz.call11 (FnK.go (t_ah.h _) hr31) ⟨(agC _ h.1 rfl rfl),trivial⟩ (wN (f:=xS) inferInstance wL) rfl) rfl) ?_
 refine wK [(5,_)] ?_
 refine dG [(139,_)] [([(140,some (yB r32))],[(140,0)])] ⟨rfl,trivial⟩ (fun E h => zQ.opE (yV (xs:=[.tmp 139]) Tryz.call12 (FnK.go (t_ai.h _) hr32) ⟨(agC _ h.1 rfl rfl),trivial⟩ (wN (f:=yB) inferInstance wL) rfl) rfl) ?_
 refine yN [(2,_)] ?_
 refine dG [(141,_)] [([(142,some (L 1 lV r33))],[(142,0)])] ⟨rfl,trivial⟩ (fun E h => zQ.opE (yV (xs:=[.tmp 141]) Tryz.call13 (FnK.go (t_p.h _) hr33) ⟨(agC _ h.1 rfl rfl),trivial⟩ (wN (f:=lM) inferInstance wL) rfl) rfl) ?_
 refine yN [(3,_)] ?_
 refine dG [(143,_)] [([(144,some (L 1 lV r34))],[(144,0)])] ⟨rfl,trivial⟩ (fun E h => zQ.opE (yV (xs:=[.tmp 143]) Tryz.call13 (FnK.go (t_p.h _) hr34) ⟨(agC _ h.1 rfl rfl),trivial⟩ (wN (f:=lM) inferInstance wL) rfl) rfl) ?_
 refine dG [(138,_),(140,_),(142,_),(144,_)] [([(145,some (T.tup [L 1 lV r35.1,I r35.2]))],[(145,0)])] ⟨rfl,rfl,rfl,rfl,trivial⟩ (fun E h => zQ.opE (yV (xs:=[.tmp 138,.tmp 140,.tmp 142,.tmp 144]) Tryz.call19 (FnK.go (t_a3.h _ _ _ _) hr35) ⟨(agC _ h.1 (kM (wS (tO inferInstance) (wS (tO inferInstance) (wS (tO inferInstance) kN)))) rfl),⟨(agC _ h.2.1 (kM (wS rfl (wS rfl (wS (tO inferInstance) kN)))) rfl),⟨(agC _ h.2.2.1 (tO inferInstance) rfl),⟨(agC _ h.2.2.2.1 (tO inferInstance) rfl),trivial⟩⟩⟩⟩ (wN (f:=lM) inferInstance (wN (f:=I) inferInstance wL)) rfl) rfl) ?_
 refine zTS [(145,_)] ?_
 refine zMJ [(136,_)] ?_
 refine zMJ [(136,_)] ?_
 refine zDx [(146,_)] ?_
 refine zDx [(147,_)] ?_
 refine dNA xR ?_
 refine nA (CW.ghost (zL.trq 21 145 [0] rfl rfl rfl (zG (zK (Enc.clean (f:=lV)))) rfl) ?_)
 refine CW.seq (CW.seq (CW.to [(10,L 1 lV r9.1),(11,I r9.2),(16,L 1 lV r29.2),(19,I r29.1),(21,L 1 lV r35.1),(22,I r35.2)] ⟨rfl,rfl,rfl,rfl,rfl,rfl,trivial⟩ ?_))
 refine CW.region (zR ?_)
 refine zR ?_
 obtain ⟨r36,hr36,h⟩:=bd h
 refine cA Tryz.call17 (FnK.go (t_B.h _ _) hr36) ?_
 refine zJz ?_
 refine zR ?_
 refine RW.cases 152 _ rfl (fun hc => ?_) (fun hc => ?_)
 have h:=cT hc h
 refine sk2 ?_
 refine sk2 ?_
 refine sk2 ?_
 refine uB ?_
 refine rN (CW.condT rfl ?_)
 refine sR (yJ ?_)
 refine rN (CW.ret (rA ?_))
 obtain rfl:=sI h
 exact rT
 have h:=cF hc h
 refine zBu ?_
 refine zBu ?_
 refine zP4 ?_
 refine uB ?_
 refine rN (cn h (fun hc h => ?_) (fun hc h => ?_))
 refine sR (yJ ?_)
 refine rN (CW.ret (rA ?_))
 obtain rfl:=sI h
 exact rT
 refine CW.skip (nA (sR (yJ ?_)))
 refine rN (sR (zR ?_))
 refine zR ?_
 obtain ⟨r37,hr37,h⟩:=bd h
 refine oP (yV (xs:=[.tmp 157,.tmp 158]) Tryz.call23 (FnK.go (t_av.h _ _) hr37) ⟨(agC _ rfl (tT rfl rfl inferInstance) rfl),⟨(agC _ rfl rfl rfl),trivial⟩⟩ (wN (f:=I) inferInstance wL) rfl) ?_
 refine yJ ?_
 refine rN (CW.seq (sR (zR ?_)))
 refine vH ?_
 refine rN (cn h (fun hc h => ?_) (fun hc h => ?_))
 refine sR (yJ ?_)
 refine rN (CW.ret (rA ?_))
 obtain rfl:=sI h
 exact rT
 refine CW.skip (nA (CW.seq (sR (zR ?_))))
 refine zR ?_
 refine zMF ?_
 refine rN (cn h (fun hc h => ?_) (fun hc h => ?_))
 refine sR (yJ ?_)
 refine rN (CW.ret (rA ?_))
 obtain rfl:=sI h
 exact rT
 refine CW.skip (nA (sR (yJ ?_)))
 refine rN (CW.ret ?_)
 obtain rfl:=sI h
 exact rT
instance t_a4:FI Tryz.prog 4 (∀ (x0:SPr) (x1:zC) (x2:List (List Int)) (x3:List (List Int)),FnK Tryz.prog 4 [qPr x0,wB x1,T.ro (lM x2),T.ro (lM x3)] (fun r:Bool => [B r]) (fun _ => []) (zRX x0 x1 x2 x3)):=⟨Tryz.call4,fun x0 x1 x2 x3 => FnK.mk (zYa x0 x1 x2 x3)⟩
section
attribute [local irreducible] RW CW DK OkL Ok wA wG vV vW XS.post rng tV uQ ixO zX xQ vR yZ zH GTo zL FnC FnK uR qH Kp Lk BsL BuL RpL Bk Lc
instance:GHs Tryz.f29.results:=⟨⟩
instance:GH Tryz.f29.results 2 2 0 (.trf 0 2 2 [2,0]):=⟨⟩
end
section
attribute [local irreducible] RW CW DK OkL Ok wA wG vV vW XS.post rng tV uQ ixO zX xQ vR yZ zH GTo zL FnC FnK uR qH Kp Lk BsL BuL RpL Bk Lc
instance:GHs Tryz.f96.results:=⟨⟩
instance:GH Tryz.f96.results 2 3 0 (.tr 8 21):=⟨⟩
instance:GH Tryz.f96.results 2 4 0 (.tr 9 22):=⟨⟩
instance:GH Tryz.f96.results 2 5 0 (.fz 8):=⟨⟩
instance:GH Tryz.f96.results 2 10 0 (.tr 11 42):=⟨⟩
instance:GH Tryz.f96.results 0 60 0 (.tr 43 9):=⟨⟩
instance:GH Tryz.f96.results 2 13 0 (.tr 9 60):=⟨⟩
instance:GH Tryz.f96.results 2 17 0 (.tr 14 76):=⟨⟩
instance:GH Tryz.f96.results 0 95 0 (.fz 83):=⟨⟩
instance:GH Tryz.f96.results 0 105 0 (.tr 96 9):=⟨⟩
instance:GH Tryz.f96.results 2 15 0 (.tr 9 105):=⟨⟩
instance:GH Tryz.f96.results 2 19 0 (.fz 8):=⟨⟩
instance:GHs Tryz.f30.results:=⟨⟩
instance:GH Tryz.f30.results 0 38 0 (.fz 37):=⟨⟩
end
end Go.Wk
