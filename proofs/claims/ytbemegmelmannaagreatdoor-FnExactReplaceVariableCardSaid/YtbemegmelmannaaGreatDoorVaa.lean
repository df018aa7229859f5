/- x -/
import Derived.Test.YtbemegmelmannaaGreatDoorWT
namespace Go.Wk
open Go Go.Proofs Go.Ab
set_option maxRecDepth 100000
set_option maxHeartbeats 4000000
section
attribute [local irreducible] RW CW DK OkL Ok Andthen InBlock Round RetG XS.post rng quoO remO ixO sliceO appO appzO lenOk loopO GTo Ghost FnC FnK LocL OptL Kp BsL BuL RpL Bk Lc JQ AK
instance:HS Tryz.f57.results [(2,2,0,.tr 5 8),(0,26,0,.tr 20 5),(2,7,0,.tr 5 26),(0,34,0,.tr 29 5)]:=⟨⟩
instance (x0:ByteArray) (x1:Int):LH (R:=(List ByteArray)) (l1_O x0 x1) [0,1] [] (fun s1 => [(5,L 1 Str s1.1),(6,I s1.2.1),(7,I s1.2.2)]) (.xe 0 [1] fun r7 => [(5,L 1 Str r7.1),(6,I r7.2)]):=⟨⟩
instance t_O:FI Tryz.prog 57 (∀ (x0:ByteArray) (x1:Int),FnK Tryz.prog 57 [Str x0,(IK .u8) x1] (fun r:(List ByteArray) => [(L 1 Str) r]) (fun _ => []) (f_O x0 x1)):=⟨Tryz.call57,fun x0 x1 => iM Tryz.func57⟩
instance t_am:FI Tryz.prog 72 (∀ (x0:List Int),FnK Tryz.prog 72 [T.ro (lV x0)] (fun r:(List Int) => [lV r]) (fun _ => []) (f_am x0)):=⟨Tryz.call72,fun x0 => iM Tryz.func72⟩
instance t_aR:FI Tryz.prog 96 (∀ (x0:Int) (x1:Int) (x2:Int),FnK Tryz.prog 96 [I x0,I x1,I x2] (fun r:Bool => [B r]) (fun _ => []) (f_aR x0 x1 x2)):=⟨Tryz.call96,fun x0 x1 x2 => iM Tryz.func96⟩
instance:HS Tryz.f75.results [(2,2,0,.tr 6 9)]:=⟨⟩
instance (x1:List Int):LH (R:=(List Int) × Bool) (l1_Y x1) [1] [] (fun s1 => [(6,L 1 I s1.1),(7,I s1.2)]) (.xs (.xe 0 [1] fun r11 => [(6,L 1 I r11)]) .xr):=⟨⟩
instance t_Y:FI Tryz.prog 75 (∀ (x0:Int) (x1:List Int),FnK Tryz.prog 75 [I x0,T.ro (lV x1)] (fun r:(List Int) × Bool => [lV r.1,B r.2]) (fun _ => []) (f_Y x0 x1)):=⟨Tryz.call75,fun x0 x1 => iM Tryz.func75⟩
theorem tn_l {g_l:Int → Option ByteArray} [FI Tryz.prog 77 (∀ (x0:Int),FnK Tryz.prog 77 [I x0] (fun r:ByteArray => [Str r]) (fun _ => []) (g_l x0))]:∀ (x0:Int),FnK Tryz.prog 77 [I x0] (fun r:ByteArray => [Str r]) (fun _ => []) (b_l g_l x0):=fun x0 => iM Tryz.func77
theorem tb_l {g_l:Int → Option ByteArray} (H_l:∀ (x0:Int) r,g_l x0 = some r → FnC Tryz.prog 77 [I x0] [Str r] []) (x0:Int) (r:ByteArray) (h:b_l g_l x0 = some r):FnC Tryz.prog 77 [I x0] [Str r] []:=by
 have:FI Tryz.prog 77 (∀ (x0:Int),FnK Tryz.prog 77 [I x0] (fun r:ByteArray => [Str r]) (fun _ => []) (g_l x0)):=⟨Tryz.call77,fun x0 => FnK.mk (H_l x0)⟩
 exact (tn_l x0).go h
instance (x0:List Int) (x1:List Int):LH (R:=Bool) (l1_an x0 x1) [0,1] [] (fun s1 => [(5,I s1)]) (.xs (.xe 0 [0,1] fun _ => []) .xr):=⟨⟩
instance t_an:FI Tryz.prog 83 (∀ (x0:List Int) (x1:List Int),FnK Tryz.prog 83 [T.ro (lV x0),T.ro (lV x1)] (fun r:Bool => [B r]) (fun _ => []) (f_an x0 x1)):=⟨Tryz.call83,fun x0 x1 => iM Tryz.func83⟩
instance:HS Tryz.f99.results [(2,3,0,.tr 8 15)]:=⟨⟩
instance (g_a:SPr → Int → (List Int) → (List Int) → Option (List Int)) (x0:SPr) (x1:Int) (x2:List Int) (s5:(List Int) × Int):LH (R:=(List Int)) (l1_f g_a x0 x1 x2 s5) [1,2,3,7,9] [] (fun s6 => [(8,L 1 I s6.1),(10,I s6.2)]) (.xe 2 [] fun r11 => [(8,L 1 I r11)]):=⟨⟩
instance (g_a:SPr → Int → (List Int) → (List Int) → Option (List Int)) (x0:SPr) (x1:Int) (x2:List Int):LH (R:=(List Int)) (l2_f g_a x0 x1 x2) [1,2,3,7] [] (fun s5 => [(8,L 1 I s5.1),(9,I s5.2)]) (.xe 0 [1,2,3,7] fun r13 => [(8,L 1 I r13)]):=⟨⟩
theorem tn_f {g_a:SPr → Int → (List Int) → (List Int) → Option (List Int)} [FI Tryz.prog 100 (∀ (x0:SPr) (x1:Int) (x2:List Int) (x3:List Int),FnK Tryz.prog 100 [qPr x0,I x1,T.ro (lV x2),T.ro (lV x3)] (fun r:(List Int) => [lV r]) (fun _ => []) (g_a x0 x1 x2 x3))]:∀ (x0:SPr) (x1:Int) (x2:List Int),FnK Tryz.prog 99 [qPr x0,I x1,T.ro (lV x2)] (fun r:(List Int) => [lV r]) (fun _ => []) (b_f g_a x0 x1 x2):=fun x0 x1 x2 => iM Tryz.func99
theorem tb_f {g_a:SPr → Int → (List Int) → (List Int) → Option (List Int)} (H_a:∀ (x0:SPr) (x1:Int) (x2:List Int) (x3:List Int) r,g_a x0 x1 x2 x3 = some r → FnC Tryz.prog 100 [qPr x0,I x1,T.ro (lV x2),T.ro (lV x3)] [lV r] []) (x0:SPr) (x1:Int) (x2:List Int) (r:(List Int)) (h:b_f g_a x0 x1 x2 = some r):FnC Tryz.prog 99 [qPr x0,I x1,T.ro (lV x2)] [lV r] []:=by
 have:FI Tryz.prog 100 (∀ (x0:SPr) (x1:Int) (x2:List Int) (x3:List Int),FnK Tryz.prog 100 [qPr x0,I x1,T.ro (lV x2),T.ro (lV x3)] (fun r:(List Int) => [lV r]) (fun _ => []) (g_a x0 x1 x2 x3)):=⟨Tryz.call100,fun x0 x1 x2 x3 => FnK.mk (H_a x0 x1 x2 x3)⟩
 exact (tn_f x0 x1 x2).go h
end
theorem u_V (x0:List Int) (r:(List Int)) (h:f_V x0 = some r):FnC Tryz.prog 105 [T.ro (lV x0)] [lV r] []:=by
 refine fB Tryz.func105 (fun St W w0 v => ?_)
 refine sR (oP (x_nil 1 rfl) ?_)
 refine rN (CW.seq (sR (a_mv ?_)))
 refine RW.isnil Tryz.underlying74 (locB rfl rfl) (.inl rfl) rfl rfl (fun b1 hb1 => ?_)
 refine rN (CW.cond _ rfl (fun hc => ?_) (fun hc => ?_))
 have hx:=hb1 hc
 subst hx
 have h:some ([]) = some r:=by simpa [appO,f_V] using h
 refine sR (oP (x_nil 1 rfl) ?_)
 refine rN (CW.ret (rA ?_))
 obtain rfl:=sI h
 exact rT
 refine CW.skip (nA (sR (oP (x_bs0 elt_74 rfl) ?_)))
 refine a_mv ?_
 obtain ⟨v2,hv2,h⟩:=bd h
 refine oP (x_appr (f:=I) (g:=I) elt_74 (fun _ => rfl) (fun _ => rfl) inferInstance hv2 rfl (locB rfl rfl) rfl) ?_
 refine a_as ?_
 refine RW.ghost (Ghost.tr 2 7 _ rfl rfl (clean_of (cleanL (Enc.clean (f:=I)))) rfl) ?_
 refine rN (CW.ret ?_)
 obtain rfl:=sI h
 exact rT
instance t_V:FI Tryz.prog 105 (∀ (x0:List Int),FnK Tryz.prog 105 [T.ro (lV x0)] (fun r:(List Int) => [lV r]) (fun _ => []) (f_V x0)):=⟨Tryz.call105,fun x0 => FnK.mk (u_V x0)⟩
section
attribute [local irreducible] RW CW DK OkL Ok Andthen InBlock Round RetG XS.post rng quoO remO ixO sliceO appO appzO lenOk loopO GTo Ghost FnC FnK LocL OptL Kp BsL BuL RpL Bk Lc JQ AK
instance:HS Tryz.f116.results [(0,20,0,.tr 16 3),(2,8,0,.tr 3 20)]:=⟨⟩
instance (s5:(List Int) × Int) (v1:Int):LH (R:=(List Int)) (l1_B s5 v1) [4,6,7,8,13] [] (fun s6 => [(3,L 1 I s6.1),(14,I s6.2)]) (.xe 2 [4,13] fun r5 => [(3,L 1 I r5)]):=⟨⟩
instance (x0:List Int):LH (R:=(List Int)) (l2_B x0) [6,7] [] (fun s5 => [(3,L 1 I s5.1),(8,I s5.2)]) (.xe 0 [6,7] fun r7 => [(3,L 1 I r7)]):=⟨⟩
instance t_B:FI Tryz.prog 116 (∀ (x0:List Int),FnK Tryz.prog 116 [T.ro (lV x0)] (fun r:(List Int) => [lV r]) (fun _ => []) (f_B x0)):=⟨Tryz.call116,fun x0 => iM Tryz.func116⟩
instance:HS Tryz.f115.results [(0,23,0,.tr 17 3),(2,10,0,.tr 3 23),(2,10,1,.tr 3 30),(0,30,0,.tr 24 3)]:=⟨⟩
instance (x0:List Int):LH (R:=ByteArray) (l1_P x0) [9,10] [] (fun s1 => [(3,L 1 (IK .u8) s1.1),(11,I s1.2)]) (.xe 0 [9,10] fun r10 => [(3,L 1 (IK .u8) r10)]):=⟨⟩
instance t_P:FI Tryz.prog 115 (∀ (x0:List Int),FnK Tryz.prog 115 [T.ro (lV x0)] (fun r:ByteArray => [Str r]) (fun _ => []) (f_P x0)):=⟨Tryz.call115,fun x0 => iM Tryz.func115⟩
instance (g_b:SPr → (List Int) → Int → Option (List Int)) (x0:SPr) (s5:(List Int) × Int) (v1:Int):LH (R:=(List Int)) (l1_c g_b x0 s5 v1) [0,6,8,9,10,15] [] (fun s6 => [(1,L 1 I s6.1),(16,I s6.2)]) (.xe 2 [6,15] fun r4 => [(1,L 1 I r4)]):=⟨⟩
instance (g_b:SPr → (List Int) → Int → Option (List Int)) (x0:SPr) (x2:List Int):LH (R:=(List Int)) (l2_c g_b x0 x2) [0,8,9] [] (fun s5 => [(1,L 1 I s5.1),(10,I s5.2)]) (.xe 0 [0,8,9] fun r6 => [(1,L 1 I r6)]):=⟨⟩
theorem tn_c {g_b:SPr → (List Int) → Int → Option (List Int)} [FI Tryz.prog 169 (∀ (x0:SPr) (x1:List Int) (x2:Int),FnK Tryz.prog 169 [T.ro ((Pt eSPr) x0),L 1 I x1,I x2] (fun _:(List Int) => []) (fun r => [(1,lV r)]) (g_b x0 x1 x2))]:∀ (x0:SPr) (x1:List Int) (x2:List Int),FnK Tryz.prog 157 [T.ro ((Pt eSPr) x0),L 1 I x1,T.ro (lV x2)] (fun _:(List Int) => []) (fun r => [(1,lV r)]) (b_c g_b x0 x1 x2):=fun x0 x1 x2 => iM Tryz.func157
theorem tb_c {g_b:SPr → (List Int) → Int → Option (List Int)} (H_b:∀ (x0:SPr) (x1:List Int) (x2:Int) r,g_b x0 x1 x2 = some r → FnC Tryz.prog 169 [T.ro ((Pt eSPr) x0),L 1 I x1,I x2] [] [(1,lV r)]) (x0:SPr) (x1:List Int) (x2:List Int) (r:(List Int)) (h:b_c g_b x0 x1 x2 = some r):FnC Tryz.prog 157 [T.ro ((Pt eSPr) x0),L 1 I x1,T.ro (lV x2)] [] [(1,lV r)]:=by
 have:FI Tryz.prog 169 (∀ (x0:SPr) (x1:List Int) (x2:Int),FnK Tryz.prog 169 [T.ro ((Pt eSPr) x0),L 1 I x1,I x2] (fun _:(List Int) => []) (fun r => [(1,lV r)]) (g_b x0 x1 x2)):=⟨Tryz.call169,fun x0 x1 x2 => FnK.mk (H_b x0 x1 x2)⟩
 exact (tn_c x0 x1 x2).go h
end
end Go.Wk
