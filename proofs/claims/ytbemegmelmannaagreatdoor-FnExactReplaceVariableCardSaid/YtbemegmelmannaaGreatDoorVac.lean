/- x -/
import Derived.Test.YtbemegmelmannaaGreatDoorWT
namespace Go.Wk
open Go Go.Proofs Go.Ab
set_option maxRecDepth 100000
set_option maxHeartbeats 4000000
section
attribute [local irreducible] RW CW DK OkL Ok Andthen InBlock Round RetG XS.post rng quoO remO ixO sliceO appO appzO lenOk loopO GTo Ghost FnC FnK LocL OptL Kp BsL BuL RpL Bk Lc JQ AK
instance t_a1:FI Tryz.prog 46 (FnK Tryz.prog 46 [] (fun r:(List Sl30Row) => [(L 3 eSl30Row) r]) (fun _ => []) (f_a1 )):=⟨Tryz.call46,iM Tryz.func46⟩
instance (x0:ByteArray):LH (R:=Int) (l1_z x0) [0] [] (fun s1 => [(3,I s1.1),(4,I s1.2)]) (.xs (.xe 0 [0] fun r8 => [(3,I r8)]) .xr):=⟨⟩
instance (x0:ByteArray):LH (R:=Int) (l2_z x0) [0] [] (fun s3 => [(3,I s3.1),(4,I s3.2)]) (.xs (.xe 0 [0] fun r15 => [(3,I r15)]) .xr):=⟨⟩
instance t_z:FI Tryz.prog 69 (∀ (x0:ByteArray),FnK Tryz.prog 69 [Str x0] (fun r:Int => [I r]) (fun _ => []) (f_z x0)):=⟨Tryz.call69,fun x0 => iM Tryz.func69⟩
end
theorem u_ax (x0:ByteArray) (r:Bool) (h:f_ax x0 = some r):FnC Tryz.prog 30 [Str x0] [B r] []:=by
 refine fB Tryz.func30 (fun St W w0 v => ?_)
 refine sR (a_as ?_)
 refine rN (sR (a_mv ?_))
 refine oP (x_lenS Tryz.underlying9 rfl rfl) ?_
 refine a_eql ?_
 refine a_mv ?_
 refine RW.cases 6 _ rfl (fun hc => ?_) (fun hc => ?_)
 have h:=cT hc h
 refine g_mv ?_
 obtain ⟨v1,hv1,h⟩:=bd h
 refine RW.cons (IxOk.guard 3 true 6 (x_sIx Tryz.underlying9 rfl rfl hv1 rfl)) ?_
 refine RW.cons (IxOk.guard 3 true 6 (x_geqU rfl rfl rfl)) ?_
 refine a_pick ?_
 refine a_mv ?_
 refine RW.cases 11 _ rfl (fun hc => ?_) (fun hc => ?_)
 have h:=cT hc h
 refine g_mv ?_
 obtain ⟨v2,hv2,h⟩:=bd h
 refine RW.cons (IxOk.guard 8 true 11 (x_sIx Tryz.underlying9 rfl rfl hv2 rfl)) ?_
 refine RW.cons (IxOk.guard 8 true 11 (x_leqU rfl rfl rfl)) ?_
 refine a_pick ?_
 refine a_as ?_
 refine rN (CW.ret ?_)
 obtain rfl:=sI h
 exact rT
 have h:=cF hc h
 refine sk2 ?_
 refine sk2 ?_
 refine sk2 ?_
 refine a_pick ?_
 refine a_as ?_
 refine rN (CW.ret ?_)
 obtain rfl:=sI h
 exact rT
 have h:=cF hc h
 refine sk2 ?_
 refine sk2 ?_
 refine sk2 ?_
 refine a_pick ?_
 refine a_mv ?_
 refine sk2 ?_
 refine sk2 ?_
 refine sk2 ?_
 refine a_pick ?_
 refine a_as ?_
 refine rN (CW.ret ?_)
 obtain rfl:=sI h
 exact rT
instance t_ax:FI Tryz.prog 30 (∀ (x0:ByteArray),FnK Tryz.prog 30 [Str x0] (fun r:Bool => [B r]) (fun _ => []) (f_ax x0)):=⟨Tryz.call30,fun x0 => FnK.mk (u_ax x0)⟩
section
attribute [local irreducible] RW CW DK OkL Ok Andthen InBlock Round RetG XS.post rng quoO remO ixO sliceO appO appzO lenOk loopO GTo Ghost FnC FnK LocL OptL Kp BsL BuL RpL Bk Lc JQ AK
instance t_aI:FI Tryz.prog 39 (∀ (x0:ByteArray),FnK Tryz.prog 39 [Str x0] (fun r:Bool => [B r]) (fun _ => []) (f_aI x0)):=⟨Tryz.call39,fun x0 => iM Tryz.func39⟩
instance t_aJ:FI Tryz.prog 33 (∀ (x0:Sl36Reader) (x1:Int),FnK Tryz.prog 33 [T.ro ((Pt eSl36Reader) x0),(IK .u8) x1] (fun r:Bool => [B r]) (fun _ => []) (f_aJ x0 x1)):=⟨Tryz.call33,fun x0 x1 => iM Tryz.func33⟩
end
theorem u_aF (r:List SlibraryGroup) (h:f_aF = some r):FnC Tryz.prog 64 [] [T.ro (L 4 eSlibraryGroup r)] []:=Go.Wk.t0_impl_libraryGroups r h
instance t_aF:FI Tryz.prog 64 (FnK Tryz.prog 64 [] (fun r:(List SlibraryGroup) => [T.ro ((L 4 eSlibraryGroup) r)]) (fun _ => []) (f_aF )):=⟨Tryz.call64,FnK.mk (u_aF)⟩
theorem u_aj (x0:ByteArray) (r:Bool) (h:f_aj x0 = some r):FnC Tryz.prog 31 [Str x0] [B r] []:=by
 refine fB Tryz.func31 (fun St W w0 v => ?_)
 refine sR (a_as ?_)
 refine rN (sR (a_mv ?_))
 refine oP (x_lenS Tryz.underlying9 rfl rfl) ?_
 refine a_eql ?_
 refine a_mv ?_
 refine RW.cases 6 _ rfl (fun hc => ?_) (fun hc => ?_)
 have h:=cT hc h
 refine g_mv ?_
 obtain ⟨v1,hv1,h⟩:=bd h
 refine RW.cons (IxOk.guard 3 true 6 (x_sIx Tryz.underlying9 rfl rfl hv1 rfl)) ?_
 refine RW.cons (IxOk.guard 3 true 6 (x_geqU rfl rfl rfl)) ?_
 refine a_pick ?_
 refine a_mv ?_
 refine RW.cases 11 _ rfl (fun hc => ?_) (fun hc => ?_)
 have h:=cT hc h
 refine g_mv ?_
 obtain ⟨v2,hv2,h⟩:=bd h
 refine RW.cons (IxOk.guard 8 true 11 (x_sIx Tryz.underlying9 rfl rfl hv2 rfl)) ?_
 refine RW.cons (IxOk.guard 8 true 11 (x_leqU rfl rfl rfl)) ?_
 refine a_pick ?_
 refine a_as ?_
 refine rN (CW.ret ?_)
 obtain rfl:=sI h
 exact rT
 have h:=cF hc h
 refine sk2 ?_
 refine sk2 ?_
 refine sk2 ?_
 refine a_pick ?_
 refine a_as ?_
 refine rN (CW.ret ?_)
 obtain rfl:=sI h
 exact rT
 have h:=cF hc h
 refine sk2 ?_
 refine sk2 ?_
 refine sk2 ?_
 refine a_pick ?_
 refine a_mv ?_
 refine sk2 ?_
 refine sk2 ?_
 refine sk2 ?_
 refine a_pick ?_
 refine a_as ?_
 refine rN (CW.ret ?_)
 obtain rfl:=sI h
 exact rT
instance t_aj:FI Tryz.prog 31 (∀ (x0:ByteArray),FnK Tryz.prog 31 [Str x0] (fun r:Bool => [B r]) (fun _ => []) (f_aj x0)):=⟨Tryz.call31,fun x0 => FnK.mk (u_aj x0)⟩
section
attribute [local irreducible] RW CW DK OkL Ok Andthen InBlock Round RetG XS.post rng quoO remO ixO sliceO appO appzO lenOk loopO GTo Ghost FnC FnK LocL OptL Kp BsL BuL RpL Bk Lc JQ AK
instance t_aG:FI Tryz.prog 51 (∀ (x0:ByteArray),FnK Tryz.prog 51 [Str x0] (fun r:Bool => [B r]) (fun _ => []) (f_aG x0)):=⟨Tryz.call51,fun x0 => iM Tryz.func51⟩
end
end Go.Wk
