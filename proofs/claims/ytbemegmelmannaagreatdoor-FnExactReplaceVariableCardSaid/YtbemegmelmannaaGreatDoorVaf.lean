/- x -/
import Derived.Test.YtbemegmelmannaaGreatDoorVaa
import Derived.Test.YtbemegmelmannaaGreatDoorWT
namespace Go.Wk
open Go Go.Proofs Go.Ab
set_option maxRecDepth 100000
set_option maxHeartbeats 4000000
section
attribute [local irreducible] RW CW DK OkL Ok Andthen InBlock Round RetG XS.post rng quoO remO ixO sliceO appO appzO lenOk loopO GTo Ghost FnC FnK LocL OptL Kp BsL BuL RpL Bk Lc JQ AK
instance (x0:Sl36Reader) (x1:Int):LH (R:=ByteArray × Sl36Reader) (l1_K x0 x1) [0,1] [] (fun s1 => [(5,I s1)]) (.xe 0 [1] fun r4 => [(5,I r4)]):=⟨⟩
instance t_K:FI Tryz.prog 52 (∀ (x0:Sl36Reader) (x1:Int),FnK Tryz.prog 52 [T.ptr (eSl36Reader x0),(IK .u8) x1] (fun r:ByteArray × Sl36Reader => [Str r.1]) (fun r => [(0,(Pt eSl36Reader) r.2)]) (f_K x0 x1)):=⟨Tryz.call52,fun x0 x1 => iM Tryz.func52⟩
instance:HS Tryz.f74.results [(2,4,0,.tr 6 13),(0,39,0,.tr 36 6),(2,6,0,.tr 6 39),(2,6,1,.tr 6 48),(0,48,0,.tr 44 6)]:=⟨⟩
instance (x0:Int) (x1:ByteArray):LH (R:=(List Int) × Bool) (l1_R x0 x1) [0,1] [] (fun s1 => [(6,L 1 I s1.1),(7,I s1.2)]) (.xs (.xe 0 [0,1] fun r14 => [(6,L 1 I r14)]) .xr):=⟨⟩
instance t_R:FI Tryz.prog 74 (∀ (x0:Int) (x1:ByteArray),FnK Tryz.prog 74 [I x0,Str x1] (fun r:(List Int) × Bool => [lV r.1,B r.2]) (fun _ => []) (f_R x0 x1)):=⟨Tryz.call74,fun x0 x1 => iM Tryz.func74⟩
instance:HS Tryz.f97.results [(2,2,0,.tr 3 5),(0,19,0,.tr 12 3),(2,4,0,.tr 3 19)]:=⟨⟩
instance (x0:List (List Int)):LH (R:=(List (List Int))) (l1_ao x0) [0] [] (fun s1 => [(3,L 1 lV s1.1),(4,I s1.2)]) (.xe 0 [0] fun r5 => [(3,L 1 lV r5)]):=⟨⟩
instance t_ao:FI Tryz.prog 97 (∀ (x0:List (List Int)),FnK Tryz.prog 97 [T.ro (lM x0)] (fun r:(List (List Int)) => [lM r]) (fun _ => []) (f_ao x0)):=⟨Tryz.call97,fun x0 => iM Tryz.func97⟩
end
theorem tN_l:∀ n,(∀ (x0:Int) r,fN_l n x0 = some r → FnC Tryz.prog 77 [I x0] [Str r] []):=by
  intro n
  induction n with
  | zero => exact (fun _ r h => by simp [fN_l] at h)
  | succ n ih => exact (fun x0 r h => tb_l ih x0 r (by simpa [fN_l] using h))
theorem u_l (x0:Int) (r:ByteArray) (h:f_l x0 = some r):FnC Tryz.prog 77 [I x0] [Str r] []:=by
 obtain ⟨n,hn⟩:=fuelO_some h
 exact (tN_l n) x0 r hn
instance t_l:FI Tryz.prog 77 (∀ (x0:Int),FnK Tryz.prog 77 [I x0] (fun r:ByteArray => [Str r]) (fun _ => []) (f_l x0)):=⟨Tryz.call77,fun x0 => FnK.mk (u_l x0)⟩
section
attribute [local irreducible] RW CW DK OkL Ok Andthen InBlock Round RetG XS.post rng quoO remO ixO sliceO appO appzO lenOk loopO GTo Ghost FnC FnK LocL OptL Kp BsL BuL RpL Bk Lc JQ AK
instance:HS Tryz.f169.results [(2,1,0,.tr 6 14),(3,2,0,.tr 58 6)]:=⟨⟩
instance (x2:Int) (r3:(List Int)):LH (R:=(List Int)) (l1_b x2 r3) [0,2,6,16] [] (fun s1 => [(1,L 1 I s1.1),(17,I s1.2)]) (.xe 0 [16] fun r8 => [(1,L 1 I r8)]):=⟨⟩
instance (g_c:SPr → (List Int) → (List Int) → Option (List Int)) (x0:SPr) (x2:Int) (s7:(List Int) × Int) (v17:Int):LH (R:=(List Int)) (l2_b g_c x0 x2 s7 v17) [0,2,8,58,59,60,65] [] (fun s8 => [(1,L 1 I s8.1),(66,I s8.2)]) (.xe 4 [8,65] fun r22 => [(1,L 1 I r22)]):=⟨⟩
instance (g_c:SPr → (List Int) → (List Int) → Option (List Int)) (x0:SPr) (x2:Int) (r3:(List Int)):LH (R:=(List Int)) (l3_b g_c x0 x2 r3) [0,2,58,59] [] (fun s7 => [(1,L 1 I s7.1),(60,I s7.2)]) (.xe 2 [0,2,58,59] fun r24 => [(1,L 1 I r24)]):=⟨⟩
instance (g_c:SPr → (List Int) → (List Int) → Option (List Int)) (x0:SPr) (x2:Int) (s15:(List Int) × Int) (v25:Int):LH (R:=(List Int)) (l4_b g_c x0 x2 s15 v25) [0,2,8,58,59,60,65] [] (fun s16 => [(1,L 1 I s16.1),(66,I s16.2)]) (.xe 4 [8,65] fun r30 => [(1,L 1 I r30)]):=⟨⟩
instance (g_c:SPr → (List Int) → (List Int) → Option (List Int)) (x0:SPr) (x2:Int) (r3:(List Int)):LH (R:=(List Int)) (l5_b g_c x0 x2 r3) [0,2,58,59] [] (fun s15 => [(1,L 1 I s15.1),(60,I s15.2)]) (.xe 2 [0,2,58,59] fun r32 => [(1,L 1 I r32)]):=⟨⟩
theorem tn_b {g_c:SPr → (List Int) → (List Int) → Option (List Int)} [FI Tryz.prog 157 (∀ (x0:SPr) (x1:List Int) (x2:List Int),FnK Tryz.prog 157 [T.ro ((Pt eSPr) x0),L 1 I x1,T.ro (lV x2)] (fun _:(List Int) => []) (fun r => [(1,lV r)]) (g_c x0 x1 x2))]:∀ (x0:SPr) (x1:List Int) (x2:Int),FnK Tryz.prog 169 [T.ro ((Pt eSPr) x0),L 1 I x1,I x2] (fun _:(List Int) => []) (fun r => [(1,lV r)]) (b_b g_c x0 x1 x2):=fun x0 x1 x2 => iM Tryz.func169
theorem tb_b {g_c:SPr → (List Int) → (List Int) → Option (List Int)} (H_c:∀ (x0:SPr) (x1:List Int) (x2:List Int) r,g_c x0 x1 x2 = some r → FnC Tryz.prog 157 [T.ro ((Pt eSPr) x0),L 1 I x1,T.ro (lV x2)] [] [(1,lV r)]) (x0:SPr) (x1:List Int) (x2:Int) (r:(List Int)) (h:b_b g_c x0 x1 x2 = some r):FnC Tryz.prog 169 [T.ro ((Pt eSPr) x0),L 1 I x1,I x2] [] [(1,lV r)]:=by
 have:FI Tryz.prog 157 (∀ (x0:SPr) (x1:List Int) (x2:List Int),FnK Tryz.prog 157 [T.ro ((Pt eSPr) x0),L 1 I x1,T.ro (lV x2)] (fun _:(List Int) => []) (fun r => [(1,lV r)]) (g_c x0 x1 x2)):=⟨Tryz.call157,fun x0 x1 x2 => FnK.mk (H_c x0 x1 x2)⟩
 exact (tn_b x0 x1 x2).go h
end
theorem u_aL (x1:Int) (r:(List SNode)) (h:f_aL x1 = some r):FnC Tryz.prog 45 [T.lit (.slice none 0 0),I x1] [(L 3 eSNode) r] []:=by
 refine fB Tryz.func45 (fun St W w0 v => ?_)
 refine sR (oP (x_nil 3 rfl) ?_)
 refine rN (CW.seq (sR (a_mv ?_)))
 refine a_lss ?_
 refine rN (cn h (fun hc h => ?_) (fun hc h => ?_))
 ·refine CW.region ?_
  cases h
 ·refine CW.skip (nA (CW.seq (sR (a_mv ?_))))
  refine a_mv ?_
  refine oP (x_capnil Tryz.underlying22 rfl rfl) ?_
  refine a_mv ?_
  refine oP (x_lennil Tryz.underlying22 rfl rfl) ?_
  obtain ⟨v1,hv1,h⟩:=bd h
  refine a_sub ?_
  obtain ⟨v2,hv2,h⟩:=bd h
  refine a_sub ?_
  refine a_as ?_
  refine rN (sR (a_mv ?_))
  refine a_gtr ?_
  refine rN (cn h (fun hc h => ?_) (fun hc h => ?_))
  ·refine CW.region (a_mv ?_)
   refine a_mv ?_
   refine oP (x_capnil Tryz.underlying22 rfl rfl) ?_
   refine oP (x_slnil elt_22 rfl rfl rfl) ?_
   refine a_mv ?_
   obtain ⟨v3,hv3,h⟩:=bd h
   refine oP (x_appz (f:=eSNode) (z:=(SNode.mk 0 ByteArray.empty ByteArray.empty)) elt_22 Tryz.underlying3 (rfl) hv3 rfl rfl rfl) ?_
   refine a_mv ?_
   refine oP (x_lennil Tryz.underlying22 rfl rfl) ?_
   obtain ⟨v4,hv4,h⟩:=bd h
   refine oP (x_cut (f:=eSNode) elt_22 hv4 rfl rfl (.inl rfl) rfl) ?_
   refine a_as ?_
   refine RW.ghost (Ghost.tr 0 25 _ rfl rfl (clean_of (cleanL (Enc.clean (f:=eSNode)))) rfl) ?_
   refine rN (sR (a_mv ?_))
   refine a_as ?_
   refine RW.ghost (Ghost.tr 4 0 _ rfl rfl (clean_of (cleanL (Enc.clean (f:=eSNode)))) rfl) ?_
   refine rN (CW.ret ?_)
   obtain rfl:=sI h
   exact rT
  ·refine CW.skip (nA (sR (a_mv ?_)))
   refine a_as ?_
   refine rN (CW.ghost (Ghost.nil 4 3 rfl) ?_)
   refine CW.ret ?_
   obtain rfl:=sI h
   exact rT
instance t_aL:FI Tryz.prog 45 (∀ (x1:Int),FnK Tryz.prog 45 [T.lit (.slice none 0 0),I x1] (fun r:(List SNode) => [(L 3 eSNode) r]) (fun _ => []) (f_aL x1)):=⟨Tryz.call45,fun x1 => FnK.mk (u_aL x1)⟩
end Go.Wk
