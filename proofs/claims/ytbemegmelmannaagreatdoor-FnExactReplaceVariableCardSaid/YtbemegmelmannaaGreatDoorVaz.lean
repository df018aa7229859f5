/- x -/
import Derived.Test.YtbemegmelmannaaGreatDoorVag
import Derived.Test.YtbemegmelmannaaGreatDoorVah
import Derived.Test.YtbemegmelmannaaGreatDoorVai
import Derived.Test.YtbemegmelmannaaGreatDoorVay
import Derived.Test.YtbemegmelmannaaGreatDoorWT
namespace Go.Wk
open Go Go.Proofs Go.Ab
set_option maxRecDepth 100000
set_option maxHeartbeats 4000000
theorem tb_w {g_r:SexprReader → Option ((List SNode) × Bool × SexprReader)} (H_r:∀ (x0:SexprReader) r,g_r x0 = some r → FnC Tryz.prog 56 [T.ptr (eSexprReader x0)] [(L 3 eSNode) r.1,B r.2.1] [(0,(Pt eSexprReader) r.2.2)]) (x0:SexprReader) (r:(List SNode) × Bool × SexprReader) (h:b_w g_r x0 = some r):FnC Tryz.prog 43 [T.ptr (eSexprReader x0)] [(L 3 eSNode) r.1,B r.2.1] [(0,(Pt eSexprReader) r.2.2)]:=by
 refine fB2 Tryz.func43 (fun St W w0 v => ?_)
 refine sR (oP (x_nil 3 rfl) ?_)
 refine a_as ?_
 refine rN (CW.seq (sR (a_mv ?_)))
 obtain ⟨r1,hr1,h⟩:=bd h
 refine oP (x_call (xs:=[.tmp 8]) Tryz.call54 (FnK.go (t_aK.h _) hr1) ⟨(agC _ rfl (cloSP rfl rfl rfl) rfl),trivial⟩ (resC (f:=(IK .u8)) inferInstance resN) rfl) ?_
 refine a_as ?_
 refine rN (CW.block (sR (a_mv ?_)))
 refine oP (x_eqlU rfl rfl rfl) ?_
 refine a_as ?_
 refine rN (cn h (fun hc h => ?_) (fun hc h => ?_))
 refine sR (a_mv ?_)
 obtain ⟨r2,hr2,h⟩:=bd h
 refine oP (x_callM (xs:=[.tmp 13,.const _,.const _]) 0 13 0 [] Tryz.call55 (t_ay.h _ _ _ _ hr2) rfl rfl rfl (clean_of (cleanP (cleanA ⟨(Enc.clean (f:=Str) _),(Enc.clean (f:=I) _),trivial⟩))) (clean_of (cleanP (cleanA ⟨(Enc.clean (f:=Str) _),(Enc.clean (f:=I) _),trivial⟩))) rfl rfl ⟨(agLd rfl (clean_of (cleanP (cleanA ⟨(Enc.clean (f:=Str) _),(Enc.clean (f:=I) _),trivial⟩))) rfl),⟨(agM _ rfl rfl rfl),⟨(agM _ rfl rfl rfl),trivial⟩⟩⟩ (resC (f:=(L 3 eSNode)) inferInstance (resC (f:=B) inferInstance resN)) rfl rfl rfl rfl) ?_
 refine a_ext ?_
 refine a_ext ?_
 refine a_as ?_
 refine a_as ?_
 refine RW.ghost (Ghost.trq 2 14 [0] rfl rfl rfl (clean_of (cleanL (Enc.clean (f:=eSNode)))) rfl) ?_
 refine rN (CW.ret (rB ?_))
 refine rA ?_
 obtain rfl:=sI h
 exact rT
 refine sR (a_mv ?_)
 refine oP (x_eqlU rfl rfl rfl) ?_
 refine a_as ?_
 refine rN (cn h (fun hc h => ?_) (fun hc h => ?_))
 refine sR (a_mv ?_)
 obtain ⟨r3,hr3,h⟩:=bd h
 refine oP (x_callM (xs:=[.tmp 20,.const _,.const _]) 0 20 0 [] Tryz.call55 (t_ay.h _ _ _ _ hr3) rfl rfl rfl (clean_of (cleanP (cleanA ⟨(Enc.clean (f:=Str) _),(Enc.clean (f:=I) _),trivial⟩))) (clean_of (cleanP (cleanA ⟨(Enc.clean (f:=Str) _),(Enc.clean (f:=I) _),trivial⟩))) rfl rfl ⟨(agLd rfl (clean_of (cleanP (cleanA ⟨(Enc.clean (f:=Str) _),(Enc.clean (f:=I) _),trivial⟩))) rfl),⟨(agM _ rfl rfl rfl),⟨(agM _ rfl rfl rfl),trivial⟩⟩⟩ (resC (f:=(L 3 eSNode)) inferInstance (resC (f:=B) inferInstance resN)) rfl rfl rfl rfl) ?_
 refine a_ext ?_
 refine a_ext ?_
 refine a_as ?_
 refine a_as ?_
 refine RW.ghost (Ghost.trq 2 21 [0] rfl rfl rfl (clean_of (cleanL (Enc.clean (f:=eSNode)))) rfl) ?_
 refine rN (CW.ret (rB ?_))
 refine rA ?_
 obtain rfl:=sI h
 exact rT
 refine sR (a_mv ?_)
 refine oP (x_geqU rfl rfl rfl) ?_
 refine a_mv ?_
 refine RW.cases 27 _ rfl (fun hc => ?_) (fun hc => ?_)
 have h:=cT hc h
 refine g_mv ?_
 refine RW.cons (IxOk.guard 2 true 27 (x_leqU rfl rfl rfl)) ?_
 refine a_pick ?_
 refine a_as ?_
 refine rN (cn h (fun hc h => ?_) (fun hc h => ?_))
 refine sR (a_mv ?_)
 refine a_nilc ?_
 refine a_fa ?_
 refine a_ld ?_
 obtain ⟨v4,hv4,h⟩:=bd h
 refine a_add ?_
 refine a_nilc ?_
 refine a_fa ?_
 refine oP (x_st inf_3 rfl rfl rfl rfl rfl rfl (clean_of (Enc.clean (f:=I) _)) rfl) ?_
 refine rN (CW.seq (CW.to [(0,T.ptr (T.agg [Str x0.text,I v4])),(4,(IK .u8) r1)] ⟨rfl,rfl,trivial⟩ ?_))
 refine CW.region (a_mv ?_)
 refine oP (x_bs elt_62 [.tmp 38] [.slot 38 ((IK .u8) r1)] [r1] (IK .u8) ⟨.slot _ _,trivial⟩ (pkS rfl (clean_of (Enc.clean (f:=(IK .u8)) _)) rfl pkN) rfl rfl) ?_
 refine oP (x_b2s Tryz.underlying62 Tryz.underlying5 Tryz.underlying9 (locB rfl rfl) rfl) ?_
 refine oP (x_build bld_49 [(0,.const _),(1,.tmp 40)] [(0,.zero (I 2)),(1,.slot 40 (Str (b2s [r1])))] [.zero (I 2),.slot 40 (Str (b2s [r1])),.zero (Str ByteArray.empty)] (pkZ rfl (pkS rfl (clean_of (Enc.clean (f:=Str) _)) rfl (pkZ rfl pkN))) (bqC (.zero _ _ rfl) (bqC (.slot _ _) bqN)) rfl) ?_
 refine oP (x_bs elt_22 [.tmp 41] [.slot 41 (T.agg [I 2,Str (b2s [r1]),Str ByteArray.empty])] [(SNode.mk 2 (b2s [r1]) ByteArray.empty)] eSNode ⟨.slot _ _,trivial⟩ (pkS rfl (clean_of (cleanA ⟨(Enc.clean (f:=I) _),(Enc.clean (f:=Str) _),(Enc.clean (f:=Str) _),trivial⟩)) rfl pkN) rfl rfl) ?_
 refine a_as ?_
 refine a_as ?_
 refine RW.ghost (Ghost.tr 2 42 _ rfl rfl (clean_of (cleanL (Enc.clean (f:=eSNode)))) rfl) ?_
 refine rN (CW.ret (rB ?_))
 refine rA ?_
 obtain rfl:=sI h
 exact rT
 refine sR (a_mv ?_)
 refine oP (x_eqlU rfl rfl rfl) ?_
 refine a_as ?_
 refine rN (cn h (fun hc h => ?_) (fun hc h => ?_))
 refine sR (a_mv ?_)
 obtain ⟨r5,hr5,h⟩:=bd h
 refine oP (x_callM (xs:=[.tmp 46]) 0 46 0 [] Tryz.call56 (H_r _ _ hr5) rfl rfl rfl (clean_of (cleanP (cleanA ⟨(Enc.clean (f:=Str) _),(Enc.clean (f:=I) _),trivial⟩))) (clean_of (cleanP (cleanA ⟨(Enc.clean (f:=Str) _),(Enc.clean (f:=I) _),trivial⟩))) rfl rfl ⟨(agLd rfl (clean_of (cleanP (cleanA ⟨(Enc.clean (f:=Str) _),(Enc.clean (f:=I) _),trivial⟩))) rfl),trivial⟩ (resC (f:=(L 3 eSNode)) inferInstance (resC (f:=B) inferInstance resN)) rfl rfl rfl rfl) ?_
 refine a_ext ?_
 refine a_ext ?_
 refine a_as ?_
 refine a_as ?_
 refine RW.ghost (Ghost.trq 2 47 [0] rfl rfl rfl (clean_of (cleanL (Enc.clean (f:=eSNode)))) rfl) ?_
 refine rN (CW.ret (rB ?_))
 refine rA ?_
 obtain rfl:=sI h
 exact rT
 refine CW.skip (nB (nA (sR (a_mv ?_))))
 obtain ⟨r6,hr6,h⟩:=bd h
 refine oP (x_callM (xs:=[.tmp 51]) 0 51 0 [] Tryz.call44 (t_ah.h _ _ hr6) rfl rfl rfl (clean_of (cleanP (cleanA ⟨(Enc.clean (f:=Str) _),(Enc.clean (f:=I) _),trivial⟩))) (clean_of (cleanP (cleanA ⟨(Enc.clean (f:=Str) _),(Enc.clean (f:=I) _),trivial⟩))) rfl rfl ⟨(agLd rfl (clean_of (cleanP (cleanA ⟨(Enc.clean (f:=Str) _),(Enc.clean (f:=I) _),trivial⟩))) rfl),trivial⟩ (resC (f:=Str) inferInstance (resC (f:=B) inferInstance resN)) rfl rfl rfl rfl) ?_
 refine a_mvT ?_
 refine a_ext ?_
 refine a_ext ?_
 refine a_as ?_
 refine a_as ?_
 refine rN (CW.seq (CW.seq (CW.to [(0,T.ptr (eSexprReader r6.2.2)),(5,Str r6.1),(6,B r6.2.1)] ⟨rfl,rfl,rfl,trivial⟩ ?_)))
 refine CW.region (a_mv ?_)
 refine a_not ?_
 refine rN (cn h (fun hc h => ?_) (fun hc h => ?_))
 refine sR (oP (x_nil 3 rfl) ?_)
 refine a_as ?_
 refine rN (CW.ret (rA ?_))
 obtain rfl:=sI h
 exact rT
 refine CW.skip (nA (sR (a_mv ?_)))
 obtain ⟨r7,hr7,h⟩:=bd h
 refine oP (x_callM (xs:=[.tmp 58]) 0 58 0 [] Tryz.call56 (H_r _ _ hr7) rfl rfl rfl (clean_of (cleanP (cleanA ⟨(Enc.clean (f:=Str) _),(Enc.clean (f:=I) _),trivial⟩))) (clean_of (cleanP (cleanA ⟨(Enc.clean (f:=Str) _),(Enc.clean (f:=I) _),trivial⟩))) rfl rfl ⟨(agLd rfl (clean_of (cleanP (cleanA ⟨(Enc.clean (f:=Str) _),(Enc.clean (f:=I) _),trivial⟩))) rfl),trivial⟩ (resC (f:=(L 3 eSNode)) inferInstance (resC (f:=B) inferInstance resN)) rfl rfl rfl rfl) ?_
 refine a_mvT ?_
 refine a_ext ?_
 refine a_ext ?_
 refine a_as ?_
 refine a_as ?_
 refine RW.ghost (Ghost.trq 7 59 [0] rfl rfl rfl (clean_of (cleanL (Enc.clean (f:=eSNode)))) rfl) ?_
 refine rN (sR (a_mv ?_))
 refine oP (x_build bld_49 [(0,.const _),(2,.tmp 62)] [(0,.zero (I 5)),(2,.slot 62 (Str r6.1))] [.zero (I 5),.zero (Str ByteArray.empty),.slot 62 (Str r6.1)] (pkZ rfl (pkZ rfl (pkS rfl (clean_of (Enc.clean (f:=Str) _)) rfl pkN))) (bqC (.zero _ _ rfl) (bqC (.slot _ _) bqN)) rfl) ?_
 refine oP (x_bs elt_22 [.tmp 63] [.slot 63 (T.agg [I 5,Str ByteArray.empty,Str r6.1])] [(SNode.mk 5 ByteArray.empty r6.1)] eSNode ⟨.slot _ _,trivial⟩ (pkS rfl (clean_of (cleanA ⟨(Enc.clean (f:=I) _),(Enc.clean (f:=Str) _),(Enc.clean (f:=Str) _),trivial⟩)) rfl pkN) rfl rfl) ?_
 refine a_mv ?_
 refine RW.ghost (Ghost.tr 65 7 _ rfl rfl (clean_of (cleanL (Enc.clean (f:=eSNode)))) rfl) ?_
 refine oP (x_bs elt_68 [.tmp 64,.tmp 65] [.slot 64 (L 3 eSNode [(SNode.mk 5 ByteArray.empty r6.1)]),.slot 65 (L 3 eSNode r7.1)] [[(SNode.mk 5 ByteArray.empty r6.1)],r7.1] (L 3 eSNode) ⟨.slot _ _,.slot _ _,trivial⟩ (pkS rfl (clean_of (cleanL (Enc.clean (f:=eSNode)))) rfl (pkS rfl (clean_of (cleanL (Enc.clean (f:=eSNode)))) rfl pkN)) rfl rfl) ?_
 obtain ⟨r8,hr8,h⟩:=bd h
 refine cA Tryz.call36 (FnK.go (t_y.h _) hr8) ?_
 refine a_mv ?_
 refine a_as ?_
 refine a_as ?_
 refine RW.ghost (Ghost.tr 2 67 _ rfl rfl (clean_of (cleanL (Enc.clean (f:=eSNode)))) rfl) ?_
 refine rN (CW.ret ?_)
 obtain rfl:=sI h
 exact rT
 have h:=cF hc h
 refine sk2 ?_
 refine sk2 ?_
 refine a_pick ?_
 refine a_as ?_
 refine rN (CW.condF rfl ?_)
 refine sR (a_mv ?_)
 refine oP (x_eqlU rfl rfl rfl) ?_
 refine a_as ?_
 refine rN (cn h (fun hc h => ?_) (fun hc h => ?_))
 refine sR (a_mv ?_)
 obtain ⟨r9,hr9,h⟩:=bd h
 refine oP (x_callM (xs:=[.tmp 46]) 0 46 0 [] Tryz.call56 (H_r _ _ hr9) rfl rfl rfl (clean_of (cleanP (cleanA ⟨(Enc.clean (f:=Str) _),(Enc.clean (f:=I) _),trivial⟩))) (clean_of (cleanP (cleanA ⟨(Enc.clean (f:=Str) _),(Enc.clean (f:=I) _),trivial⟩))) rfl rfl ⟨(agLd rfl (clean_of (cleanP (cleanA ⟨(Enc.clean (f:=Str) _),(Enc.clean (f:=I) _),trivial⟩))) rfl),trivial⟩ (resC (f:=(L 3 eSNode)) inferInstance (resC (f:=B) inferInstance resN)) rfl rfl rfl rfl) ?_
 refine a_ext ?_
 refine a_ext ?_
 refine a_as ?_
 refine a_as ?_
 refine RW.ghost (Ghost.trq 2 47 [0] rfl rfl rfl (clean_of (cleanL (Enc.clean (f:=eSNode)))) rfl) ?_
 refine rN (CW.ret (rB ?_))
 refine rA ?_
 obtain rfl:=sI h
 exact rT
 refine CW.skip (nB (nA (sR (a_mv ?_))))
 obtain ⟨r10,hr10,h⟩:=bd h
 refine oP (x_callM (xs:=[.tmp 51]) 0 51 0 [] Tryz.call44 (t_ah.h _ _ hr10) rfl rfl rfl (clean_of (cleanP (cleanA ⟨(Enc.clean (f:=Str) _),(Enc.clean (f:=I) _),trivial⟩))) (clean_of (cleanP (cleanA ⟨(Enc.clean (f:=Str) _),(Enc.clean (f:=I) _),trivial⟩))) rfl rfl ⟨(agLd rfl (clean_of (cleanP (cleanA ⟨(Enc.clean (f:=Str) _),(Enc.clean (f:=I) _),trivial⟩))) rfl),trivial⟩ (resC (f:=Str) inferInstance (resC (f:=B) inferInstance resN)) rfl rfl rfl rfl) ?_
 refine a_mvT ?_
 refine a_ext ?_
 refine a_ext ?_
 refine a_as ?_
 refine a_as ?_
 refine rN (CW.seq (CW.seq (CW.to [(0,T.ptr (eSexprReader r10.2.2)),(5,Str r10.1),(6,B r10.2.1)] ⟨rfl,rfl,rfl,trivial⟩ ?_)))
 refine CW.region (a_mv ?_)
 refine a_not ?_
 refine rN (cn h (fun hc h => ?_) (fun hc h => ?_))
 refine sR (oP (x_nil 3 rfl) ?_)
 refine a_as ?_
 refine rN (CW.ret (rA ?_))
 obtain rfl:=sI h
 exact rT
 refine CW.skip (nA (sR (a_mv ?_)))
 obtain ⟨r11,hr11,h⟩:=bd h
 refine oP (x_callM (xs:=[.tmp 58]) 0 58 0 [] Tryz.call56 (H_r _ _ hr11) rfl rfl rfl (clean_of (cleanP (cleanA ⟨(Enc.clean (f:=Str) _),(Enc.clean (f:=I) _),trivial⟩))) (clean_of (cleanP (cleanA ⟨(Enc.clean (f:=Str) _),(Enc.clean (f:=I) _),trivial⟩))) rfl rfl ⟨(agLd rfl (clean_of (cleanP (cleanA ⟨(Enc.clean (f:=Str) _),(Enc.clean (f:=I) _),trivial⟩))) rfl),trivial⟩ (resC (f:=(L 3 eSNode)) inferInstance (resC (f:=B) inferInstance resN)) rfl rfl rfl rfl) ?_
 refine a_mvT ?_
 refine a_ext ?_
 refine a_ext ?_
 refine a_as ?_
 refine a_as ?_
 refine RW.ghost (Ghost.trq 7 59 [0] rfl rfl rfl (clean_of (cleanL (Enc.clean (f:=eSNode)))) rfl) ?_
 refine rN (sR (a_mv ?_))
 refine oP (x_build bld_49 [(0,.const _),(2,.tmp 62)] [(0,.zero (I 5)),(2,.slot 62 (Str r10.1))] [.zero (I 5),.zero (Str ByteArray.empty),.slot 62 (Str r10.1)] (pkZ rfl (pkZ rfl (pkS rfl (clean_of (Enc.clean (f:=Str) _)) rfl pkN))) (bqC (.zero _ _ rfl) (bqC (.slot _ _) bqN)) rfl) ?_
 refine oP (x_bs elt_22 [.tmp 63] [.slot 63 (T.agg [I 5,Str ByteArray.empty,Str r10.1])] [(SNode.mk 5 ByteArray.empty r10.1)] eSNode ⟨.slot _ _,trivial⟩ (pkS rfl (clean_of (cleanA ⟨(Enc.clean (f:=I) _),(Enc.clean (f:=Str) _),(Enc.clean (f:=Str) _),trivial⟩)) rfl pkN) rfl rfl) ?_
 refine a_mv ?_
 refine RW.ghost (Ghost.tr 65 7 _ rfl rfl (clean_of (cleanL (Enc.clean (f:=eSNode)))) rfl) ?_
 refine oP (x_bs elt_68 [.tmp 64,.tmp 65] [.slot 64 (L 3 eSNode [(SNode.mk 5 ByteArray.empty r10.1)]),.slot 65 (L 3 eSNode r11.1)] [[(SNode.mk 5 ByteArray.empty r10.1)],r11.1] (L 3 eSNode) ⟨.slot _ _,.slot _ _,trivial⟩ (pkS rfl (clean_of (cleanL (Enc.clean (f:=eSNode)))) rfl (pkS rfl (clean_of (cleanL (Enc.clean (f:=eSNode)))) rfl pkN)) rfl rfl) ?_
 obtain ⟨r12,hr12,h⟩:=bd h
 refine cA Tryz.call36 (FnK.go (t_y.h _) hr12) ?_
 refine a_mv ?_
 refine a_as ?_
 refine a_as ?_
 refine RW.ghost (Ghost.tr 2 67 _ rfl rfl (clean_of (cleanL (Enc.clean (f:=eSNode)))) rfl) ?_
 refine rN (CW.ret ?_)
 obtain rfl:=sI h
 exact rT
end Go.Wk
