/- x -/
import Derived.Test.YtbemegmelmannaaGreatDoorVaa
import Derived.Test.YtbemegmelmannaaGreatDoorVab
import Derived.Test.YtbemegmelmannaaGreatDoorVaf
import Derived.Test.YtbemegmelmannaaGreatDoorVag
import Derived.Test.YtbemegmelmannaaGreatDoorVae
import Derived.Test.YtbemegmelmannaaGreatDoorWT
namespace Go.Wk
open Go Go.Proofs Go.Ab
set_option maxRecDepth 100000
set_option maxHeartbeats 4000000
section
attribute [local irreducible] RW CW DK OkL Ok Andthen InBlock Round RetG XS.post rng quoO remO ixO sliceO appO appzO lenOk loopO GTo Ghost FnC FnK LocL OptL Kp BsL BuL RpL Bk Lc JQ AK
instance (x0:SPr):LH (R:=ByteArray) (l1_p x0) [1,3] [] (fun s1 => [(4,Str s1.1),(5,I s1.2)]) (.xe 0 [] fun r10 => [(4,Str r10)]):=⟨⟩
instance (x0:SPr):LH (R:=ByteArray) (l2_p x0) [1,3] [] (fun s3 => [(4,Str s3.1),(6,I s3.2)]) (.xe 2 [] fun r27 => [(4,Str r27)]):=⟨⟩
instance (x0:SPr) (s9:ByteArray × Int):LH (R:=ByteArray) (l3_p x0 s9) [1,3,7] [] (fun s10 => [(4,Str s10.1),(8,I s10.2)]) (.xe 6 [] fun r51 => [(4,Str r51)]):=⟨⟩
instance (x0:SPr):LH (R:=ByteArray) (l4_p x0) [1,3] [] (fun s9 => [(4,Str s9.1),(7,I s9.2)]) (.xe 4 [1,3] fun r53 => [(4,Str r53)]):=⟨⟩
instance t_p:FI Tryz.prog 62 (∀ (x0:SPr),FnK Tryz.prog 62 [qPr x0] (fun r:ByteArray => [Str r]) (fun _ => []) (f_p x0)):=⟨Tryz.call62,fun x0 => iM Tryz.func62⟩
instance:HS Tryz.f56.results [(2,4,0,.trq 4 11 [0])]:=⟨⟩
theorem tn_r {g_j:SexprReader → Option ((List SNode) × Bool × SexprReader)} [FI Tryz.prog 21 (∀ (x0:SexprReader),FnK Tryz.prog 21 [T.ptr (eSexprReader x0)] (fun r:(List SNode) × Bool × SexprReader => [(L 3 eSNode) r.1,B r.2.1]) (fun r => [(0,(Pt eSexprReader) r.2.2)]) (g_j x0))]:∀ (x0:SexprReader),FnK Tryz.prog 56 [T.ptr (eSexprReader x0)] (fun r:(List SNode) × Bool × SexprReader => [(L 3 eSNode) r.1,B r.2.1]) (fun r => [(0,(Pt eSexprReader) r.2.2)]) (b_r g_j x0):=fun x0 => iM Tryz.func56
theorem tb_r {g_j:SexprReader → Option ((List SNode) × Bool × SexprReader)} (H_j:∀ (x0:SexprReader) r,g_j x0 = some r → FnC Tryz.prog 21 [T.ptr (eSexprReader x0)] [(L 3 eSNode) r.1,B r.2.1] [(0,(Pt eSexprReader) r.2.2)]) (x0:SexprReader) (r:(List SNode) × Bool × SexprReader) (h:b_r g_j x0 = some r):FnC Tryz.prog 56 [T.ptr (eSexprReader x0)] [(L 3 eSNode) r.1,B r.2.1] [(0,(Pt eSexprReader) r.2.2)]:=by
 have:FI Tryz.prog 21 (∀ (x0:SexprReader),FnK Tryz.prog 21 [T.ptr (eSexprReader x0)] (fun r:(List SNode) × Bool × SexprReader => [(L 3 eSNode) r.1,B r.2.1]) (fun r => [(0,(Pt eSexprReader) r.2.2)]) (g_j x0)):=⟨Tryz.call21,fun x0 => FnK.mk (H_j x0)⟩
 exact (tn_r x0).go h
end
theorem tb_j {g_k:SexprReader → Option ((List SNode) × Bool × SexprReader)} (H_k:∀ (x0:SexprReader) r,g_k x0 = some r → FnC Tryz.prog 34 [T.ptr (eSexprReader x0)] [(L 3 eSNode) r.1,B r.2.1] [(0,(Pt eSexprReader) r.2.2)]) (x0:SexprReader) (r:(List SNode) × Bool × SexprReader) (h:b_j g_k x0 = some r):FnC Tryz.prog 21 [T.ptr (eSexprReader x0)] [(L 3 eSNode) r.1,B r.2.1] [(0,(Pt eSexprReader) r.2.2)]:=by
 refine fB2 Tryz.func21 (fun St W w0 v => ?_)
 refine sR (oP (x_nil 3 rfl) ?_)
 refine a_as ?_
 refine rN (sR (a_mv ?_))
 obtain ⟨r1,hr1,h⟩:=bd h
 refine oP (x_callM (xs:=[.tmp 9]) 0 9 0 [] Tryz.call34 (H_k _ _ hr1) rfl rfl rfl (clean_of (cleanP (cleanA ⟨(Enc.clean (f:=Str) _),(Enc.clean (f:=I) _),trivial⟩))) (clean_of (cleanP (cleanA ⟨(Enc.clean (f:=Str) _),(Enc.clean (f:=I) _),trivial⟩))) rfl rfl ⟨(agLd rfl (clean_of (cleanP (cleanA ⟨(Enc.clean (f:=Str) _),(Enc.clean (f:=I) _),trivial⟩))) rfl),trivial⟩ (resC (f:=(L 3 eSNode)) inferInstance (resC (f:=B) inferInstance resN)) rfl rfl rfl rfl) ?_
 refine a_mvT ?_
 refine a_ext ?_
 refine a_ext ?_
 refine a_as ?_
 refine a_as ?_
 refine RW.ghost (Ghost.trq 4 10 [0] rfl rfl rfl (clean_of (cleanL (Enc.clean (f:=eSNode)))) rfl) ?_
 refine rN (CW.seq (CW.block ?_))
 obtain ⟨r5,hr5,h⟩:=bd h
 refine CW.lp (s:=(r1.2.2.text,r1.2.2.at_,r1.1,r1.2.1)) (l1_j g_k) (fun s1:ByteArray × Int × (List SNode) × Bool => envL [(0,T.ptr (T.agg [Str s1.1,I s1.2.1])),(4,L 3 eSNode s1.2.2.1),(5,B s1.2.2.2)]) (fun (r5:(ByteArray × Int × (List SNode) × Bool)) e E => e = .exit 0 ∧ Ghost ⟨St,W,w0,Tryz.f21.ntmps⟩ E (envL [(0,T.ptr (T.agg [Str r5.1,I r5.2.1])),(4,L 3 eSNode r5.2.2.1),(5,B r5.2.2.2)])) (.has ⟨rfl,rfl,rfl,trivial⟩) (fun s1 x h => ?_) hr5 (fun e E hq => ?_)
 refine CW.seq (sR (a_mv ?_))
 refine a_mv ?_
 refine RW.cases 14 _ rfl (fun hc => ?_) (fun hc => ?_)
 have h:=cT hc h
 refine g_mv ?_
 obtain ⟨r2,hr2,h⟩:=bd h
 refine RW.cons (IxOk.guard 1 true 14 (x_callM (xs:=[.tmp 15,.const _]) 0 15 0 [] Tryz.call35 (t_aq.h _ _ _ hr2) rfl rfl rfl (clean_of (cleanP (cleanA ⟨(Enc.clean (f:=Str) _),(Enc.clean (f:=I) _),trivial⟩))) (clean_of (cleanP (cleanA ⟨(Enc.clean (f:=Str) _),(Enc.clean (f:=I) _),trivial⟩))) rfl rfl ⟨(agLd rfl (clean_of (cleanP (cleanA ⟨(Enc.clean (f:=Str) _),(Enc.clean (f:=I) _),trivial⟩))) rfl),⟨(agM _ rfl rfl rfl),trivial⟩⟩ (resC (f:=B) inferInstance resN) rfl rfl rfl rfl)) ?_
 refine a_pick ?_
 refine rN (cn h (fun hc h => ?_) (fun hc h => ?_))
 refine CW.skip (nA (CW.block (sR (a_mv ?_))))
 obtain ⟨r3,hr3,h⟩:=bd h
 refine oP (x_callM (xs:=[.tmp 19]) 0 19 0 [] Tryz.call34 (H_k _ _ hr3) rfl rfl rfl (clean_of (cleanP (cleanA ⟨(Enc.clean (f:=Str) _),(Enc.clean (f:=I) _),trivial⟩))) (clean_of (cleanP (cleanA ⟨(Enc.clean (f:=Str) _),(Enc.clean (f:=I) _),trivial⟩))) rfl rfl ⟨(agLd rfl (clean_of (cleanP (cleanA ⟨(Enc.clean (f:=Str) _),(Enc.clean (f:=I) _),trivial⟩))) rfl),trivial⟩ (resC (f:=(L 3 eSNode)) inferInstance (resC (f:=B) inferInstance resN)) rfl rfl rfl rfl) ?_
 refine a_mvT ?_
 refine a_ext ?_
 refine a_ext ?_
 refine a_as ?_
 refine a_as ?_
 refine RW.ghost (Ghost.trq 6 20 [0] rfl rfl rfl (clean_of (cleanL (Enc.clean (f:=eSNode)))) rfl) ?_
 refine rN (sR (oP (x_build bld_49 [(0,.const _)] [(0,.zero (I 3))] [.zero (I 3),.zero (Str ByteArray.empty),.zero (Str ByteArray.empty)] (pkZ rfl (pkZ rfl (pkZ rfl pkN))) (bqC (.zero _ _ rfl) bqN) rfl) ?_))
 refine oP (x_bs elt_22 [.tmp 23] [.slot 23 (T.agg [I 3,Str ByteArray.empty,Str ByteArray.empty])] [(SNode.mk 3 ByteArray.empty ByteArray.empty)] eSNode ⟨.slot _ _,trivial⟩ (pkS rfl (clean_of (cleanA ⟨(Enc.clean (f:=I) _),(Enc.clean (f:=Str) _),(Enc.clean (f:=Str) _),trivial⟩)) rfl pkN) rfl rfl) ?_
 refine a_mv ?_
 refine a_mv ?_
 refine RW.ghost (Ghost.tr 25 4 _ rfl rfl (clean_of (cleanL (Enc.clean (f:=eSNode)))) rfl) ?_
 refine RW.ghost (Ghost.tr 26 6 _ rfl rfl (clean_of (cleanL (Enc.clean (f:=eSNode)))) rfl) ?_
 refine oP (x_bs elt_68 [.tmp 24,.tmp 25,.tmp 26] [.slot 24 (L 3 eSNode [(SNode.mk 3 ByteArray.empty ByteArray.empty)]),.slot 25 (L 3 eSNode s1.2.2.1),.slot 26 (L 3 eSNode r3.1)] [[(SNode.mk 3 ByteArray.empty ByteArray.empty)],s1.2.2.1,r3.1] (L 3 eSNode) ⟨.slot _ _,.slot _ _,.slot _ _,trivial⟩ (pkS rfl (clean_of (cleanL (Enc.clean (f:=eSNode)))) rfl (pkS rfl (clean_of (cleanL (Enc.clean (f:=eSNode)))) rfl (pkS rfl (clean_of (cleanL (Enc.clean (f:=eSNode)))) rfl pkN))) rfl rfl) ?_
 obtain ⟨r4,hr4,h⟩:=bd h
 refine cA Tryz.call36 (FnK.go (t_y.h _) hr4) ?_
 refine a_as ?_
 refine RW.ghost (Ghost.tr 4 28 _ rfl rfl (clean_of (cleanL (Enc.clean (f:=eSNode)))) rfl) ?_
 refine rN (CW.region (a_mv ?_))
 refine a_as ?_
 refine RW.nil ?_
 exact nB (eN h)
 refine CW.exit (xA ?_)
 exact eX h
 have h:=cF hc h
 refine sk2 ?_
 refine sk2 ?_
 refine a_pick ?_
 refine rN (CW.condF rfl ?_)
 refine CW.exit (xA ?_)
 exact eX h
 obtain ⟨rfl,hg⟩:=hq
 refine xB ?_
 refine nA (CW.ghost hg ?_)
 refine sR (a_mv ?_)
 refine a_mv ?_
 refine a_as ?_
 refine a_as ?_
 refine RW.ghost (Ghost.tr 2 4 _ rfl rfl (clean_of (cleanL (Enc.clean (f:=eSNode)))) rfl) ?_
 refine rN (CW.ret ?_)
 obtain rfl:=sI h
 exact rT
section
attribute [local irreducible] RW CW DK OkL Ok Andthen InBlock Round RetG XS.post rng quoO remO ixO sliceO appO appzO lenOk loopO GTo Ghost FnC FnK LocL OptL Kp BsL BuL RpL Bk Lc JQ AK
instance (x0:List SNode):LH (R:=Int) (l1_ag x0) [0] [] (fun s1 => [(1,I s1.1),(5,I s1.2)]) (.xs (.xe 0 [0] fun r10 => [(1,I r10)]) .xr):=⟨⟩
instance t_ag:FI Tryz.prog 11 (∀ (x0:List SNode) (x1:Int),FnK Tryz.prog 11 [T.ro ((L 3 eSNode) x0),I x1] (fun r:Int => [I r]) (fun _ => []) (f_ag x0 x1)):=⟨Tryz.call11,fun x0 x1 => iM Tryz.func11⟩
end
end Go.Wk
