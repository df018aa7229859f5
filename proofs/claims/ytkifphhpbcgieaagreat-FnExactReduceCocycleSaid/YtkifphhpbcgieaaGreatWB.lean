/- The program and the reference return the same reduced forms of cocycles, for all arguments (FnExactReduceCocycle). This file is a part of the proof. -/
import Derived.Test.YtkifphhpbcgieaaGreatWA
namespace Go.Wk
open Go Go.Proofs Go.Ab
set_option maxRecDepth 100000
set_option maxHeartbeats 1000000
theorem u_aY (x0:SPr) (x1:SModule) (x2:List (List Int)) (r:Bool) (h:f_aY x0 x1 x2 = some r):FnC Tryz.prog 3 [qPr x0,qModule x1,T.ro (lM x2)] [B r] []:=by
 refine fB Tryz.func3 (fun St W w0 v => ?_)
 refine sR (a_box ?_)
 refine a_box ?_
 refine a_as ?_
 refine rN (sR (a_as ?_))
 refine rN (sR (a_ldp ?_))
 refine a_mv ?_
 obtain ⟨r1,hr1,h⟩:=bd h
 refine cA Tryz.call7 (FnK.go (t_a6.h _ _) hr1) ?_
 refine a_as ?_
 refine rN (CW.seq (sR (a_mv ?_)))
 refine a_lss ?_
 refine rN (cn h (fun hc h => ?_) (fun hc h => ?_))
 refine sR (a_as ?_)
 refine rN (CW.ret (rA ?_))
 obtain rfl:=sI h
 exact rT
 refine CW.skip (nA (sR (a_ldp ?_)))
 refine a_mv ?_
 obtain ⟨r2,hr2,h⟩:=bd h
 refine cA Tryz.call8 (FnK.go (t_a7.h _ _) hr2) ?_
 refine a_as ?_
 refine rN (CW.seq (sR (a_mv ?_)))
 refine a_lss ?_
 refine rN (cn h (fun hc h => ?_) (fun hc h => ?_))
 refine sR (a_as ?_)
 refine rN (CW.ret (rA ?_))
 obtain rfl:=sI h
 exact rT
 refine CW.skip (nA (sR (a_mv ?_)))
 refine a_mv ?_
 obtain ⟨r3,hr3,h⟩:=bd h
 refine cA Tryz.call9 (FnK.go (t_aF.h _ _) hr3) ?_
 refine a_as ?_
 refine rN (CW.seq (sR (a_mv ?_)))
 refine a_lss ?_
 refine rN (cn h (fun hc h => ?_) (fun hc h => ?_))
 refine sR (a_as ?_)
 refine rN (CW.ret (rA ?_))
 obtain rfl:=sI h
 exact rT
 refine CW.skip (nA (CW.seq ?_))
 obtain ⟨r4,hr4,h⟩:=bd h
 obtain ⟨r5,hr5,h⟩:=bd h
 obtain ⟨r6,hr6,h⟩:=bd h
 obtain ⟨r7,hr7,h⟩:=bd h
 refine CW.dk ?_
 refine d_ldp [(3,_)] ?_
 refine dG [(36,_)] [([(37,some (eSPr r4))],[(37,0)])] ⟨rfl,trivial⟩ (fun E h => IxOk.opE (x_call (xs:=[.tmp 36]) Tryz.call11 (FnK.go (t_ai.h _) hr4) ⟨(agC _ h.1 rfl rfl),trivial⟩ (resC (f:=eSPr) inferInstance resN) rfl) rfl) ?_
 refine d_ldp [(4,_)] ?_
 refine dG [(38,_)] [([(39,some (eSModule r5))],[(39,0)])] ⟨rfl,trivial⟩ (fun E h => IxOk.opE (x_call (xs:=[.tmp 38]) Tryz.call12 (FnK.go (t_aj.h _) hr5) ⟨(agC _ h.1 rfl rfl),trivial⟩ (resC (f:=eSModule) inferInstance resN) rfl) rfl) ?_
 refine d_mv [(2,_)] ?_
 refine dG [(40,_)] [([(41,some (L 1 lV r6))],[(41,0)])] ⟨rfl,trivial⟩ (fun E h => IxOk.opE (x_call (xs:=[.tmp 40]) Tryz.call13 (FnK.go (t_C.h _) hr6) ⟨(agC _ h.1 rfl rfl),trivial⟩ (resC (f:=lM) inferInstance resN) rfl) rfl) ?_
 refine dG [(37,_),(39,_),(41,_)] [([(42,some (T.tup [L 1 lV r7.1,I r7.2]))],[(42,0)])] ⟨rfl,rfl,rfl,trivial⟩ (fun E h => IxOk.opE (x_call (xs:=[.tmp 37,.tmp 39,.tmp 41]) Tryz.call10 (FnK.go (t_a4.h _ _ _) hr7) ⟨(agC _ h.1 (cloA (cloC (cloO inferInstance) (cloC (cloO inferInstance) (cloC (cloO inferInstance) cloN)))) rfl),⟨(agC _ h.2.1 (cloA (cloC rfl (cloC rfl (cloC (cloO inferInstance) cloN)))) rfl),⟨(agC _ h.2.2.1 (cloO inferInstance) rfl),trivial⟩⟩⟩ (resC (f:=lM) inferInstance (resC (f:=I) inferInstance resN)) rfl) rfl) ?_
 refine d_mvT [(42,_)] ?_
 refine d_ext [(35,_)] ?_
 refine d_ext [(35,_)] ?_
 refine d_as [(43,_)] ?_
 refine d_as [(44,_)] ?_
 refine dNA mixedP ?_
 refine nA (CW.ghost (Ghost.trq 8 42 [0] rfl rfl rfl (clean_of (cleanL (Enc.clean (f:=lV)))) rfl) ?_)
 refine CW.seq (CW.to [(2,T.ro (lM x2)),(3,T.ptr (qPr x0)),(4,T.ptr (qModule x1)),(8,L 1 lV r7.1),(9,I r7.2)] ⟨rfl,rfl,rfl,rfl,rfl,trivial⟩ ?_)
 refine CW.region (a_ldp ?_)
 obtain ⟨r8,hr8,h⟩:=bd h
 refine oP (x_call (xs:=[.tmp 45]) Tryz.call11 (FnK.go (t_ai.h _) hr8) ⟨(agC _ rfl rfl rfl),trivial⟩ (resC (f:=eSPr) inferInstance resN) rfl) ?_
 refine a_alloc ?_
 refine oP (x_stp inf_34 rfl (locB rfl rfl) rfl rfl rfl rfl (clean_of (cleanA ⟨(cleanL (Enc.clean (f:=I))),(cleanL (Enc.clean (f:=lV))),(cleanL (Enc.clean (f:=lM))),trivial⟩)) rfl) ?_
 refine rN (sR (a_ldp ?_))
 obtain ⟨r9,hr9,h⟩:=bd h
 refine oP (x_call (xs:=[.tmp 47]) Tryz.call12 (FnK.go (t_aj.h _) hr9) ⟨(agC _ rfl rfl rfl),trivial⟩ (resC (f:=eSModule) inferInstance resN) rfl) ?_
 refine a_alloc ?_
 refine oP (x_stp inf_36 rfl (locB rfl rfl) rfl rfl rfl rfl (clean_of (cleanA ⟨(Enc.clean (f:=I) _),(Enc.clean (f:=I) _),(cleanL (Enc.clean (f:=lM))),trivial⟩)) rfl) ?_
 refine rN (sR (a_mv ?_))
 obtain ⟨r10,hr10,h⟩:=bd h
 refine oP (x_call (xs:=[.tmp 49]) Tryz.call13 (FnK.go (t_C.h _) hr10) ⟨(agC _ rfl rfl rfl),trivial⟩ (resC (f:=lM) inferInstance resN) rfl) ?_
 refine a_as ?_
 refine RW.ghost (Ghost.tr 12 50 _ rfl rfl (clean_of (cleanL (Enc.clean (f:=lV)))) rfl) ?_
 refine rN (sR (a_ldp ?_))
 refine a_ldp ?_
 refine a_mv ?_
 obtain ⟨r11,hr11,h⟩:=bd h
 refine oP (x_call (xs:=[.tmp 52,.tmp 53,.tmp 54]) Tryz.call14 (FnK.go (t_aX.h _ _ _) hr11) ⟨(agC _ rfl (cloA (cloC (cloS rfl rfl inferInstance) (cloC (cloS rfl rfl inferInstance) (cloC (cloS rfl rfl inferInstance) cloN)))) rfl),⟨(agC _ rfl (cloA (cloC rfl (cloC rfl (cloC (cloS rfl rfl inferInstance) cloN)))) rfl),⟨(agC _ rfl (cloS rfl rfl inferInstance) rfl),trivial⟩⟩⟩ (resC (f:=lM) inferInstance (resC (f:=I) inferInstance resN)) rfl) ?_
 refine a_mvT ?_
 refine a_ext ?_
 refine a_ext ?_
 refine a_as ?_
 refine a_as ?_
 refine RW.ghost (Ghost.trq 13 55 [0] rfl rfl rfl (clean_of (cleanL (Enc.clean (f:=lV)))) rfl) ?_
 refine rN (CW.seq (sR (a_mv ?_)))
 refine a_mv ?_
 obtain ⟨r12,hr12,h⟩:=bd h
 refine oP (x_call (xs:=[.tmp 58,.tmp 59]) Tryz.call15 (FnK.go (t_E.h _ _) hr12) ⟨(agC _ rfl (cloS rfl rfl inferInstance) rfl),⟨(agC _ rfl (cloS rfl rfl inferInstance) rfl),trivial⟩⟩ (resC (f:=B) inferInstance resN) rfl) ?_
 refine a_not ?_
 refine a_mv ?_
 refine RW.cases 62 _ rfl (fun hc => ?_) (fun hc => ?_)
 have h:=cT hc h
 refine sk2 ?_
 refine sk2 ?_
 refine sk2 ?_
 refine a_pick ?_
 refine rN (CW.condT rfl ?_)
 refine CW.seq (CW.to [] trivial ?_)
 refine CW.region (a_as ?_)
 refine rN (CW.ret (rA ?_))
 obtain rfl:=sI h
 exact rT
 have h:=cF hc h
 refine g_mv ?_
 refine g_mv ?_
 refine g_neq ?_
 refine a_pick ?_
 refine rN (cn h (fun hc h => ?_) (fun hc h => ?_))
 refine CW.seq (CW.to [] trivial ?_)
 refine CW.region (a_as ?_)
 refine rN (CW.ret (rA ?_))
 obtain rfl:=sI h
 exact rT
 refine CW.skip (nA (CW.seq (CW.seq (CW.to [(2,T.ro (lM x2)),(3,T.ptr (qPr x0)),(4,T.ptr (qModule x1)),(8,L 1 lV r7.1),(9,I r7.2),(10,T.ptr (eSPr r8)),(11,T.ptr (eSModule r9)),(12,L 1 lV r10),(13,L 1 lV r11.1),(14,I r11.2)] ⟨rfl,rfl,rfl,rfl,rfl,rfl,rfl,rfl,rfl,rfl,trivial⟩ ?_))))
 obtain ⟨r13,hr13,h⟩:=bd h
 obtain ⟨r14,hr14,h⟩:=bd h
 refine CW.dk ?_
 refine d_ldp [(10,_)] ?_
 refine d_ldp [(3,_)] ?_
 refine dG [(68,_)] [([(69,some (eSPr r13))],[(69,0)])] ⟨rfl,trivial⟩ (fun E h => IxOk.opE (x_call (xs:=[.tmp 68]) Tryz.call11 (FnK.go (t_ai.h _) hr13) ⟨(agC _ h.1 rfl rfl),trivial⟩ (resC (f:=eSPr) inferInstance resN) rfl) rfl) ?_
 refine dG [(67,_),(10,_),(69,_)] [([(70,some (B r14))],[(70,0)])] ⟨rfl,rfl,rfl,trivial⟩ (fun E h => IxOk.opE (x_call (xs:=[.tmp 67,.tmp 69]) Tryz.call16 (FnK.go (t_a9.h _ _) hr14) ⟨(agC _ h.1 (cloA (cloC (cloS h.2.1 rfl inferInstance) (cloC (cloS h.2.1 rfl inferInstance) (cloC (cloS h.2.1 rfl inferInstance) cloN)))) rfl),⟨(agC _ h.2.2.1 (cloA (cloC (cloO inferInstance) (cloC (cloO inferInstance) (cloC (cloO inferInstance) cloN)))) rfl),trivial⟩⟩ (resC (f:=B) inferInstance resN) rfl) rfl) ?_
 refine d_not [(70,_)] ?_
 refine dNA mixedP ?_
 refine nA (cn h (fun hc h => ?_) (fun hc h => ?_))
 refine sR (a_as ?_)
 refine rN (CW.ret (rA ?_))
 obtain rfl:=sI h
 exact rT
 refine CW.skip (nA (CW.seq (CW.seq ?_)))
 obtain ⟨r15,hr15,h⟩:=bd h
 obtain ⟨r16,hr16,h⟩:=bd h
 refine CW.dk ?_
 refine d_ldp [(11,_)] ?_
 refine d_ldp [(4,_)] ?_
 refine dG [(73,_)] [([(74,some (eSModule r15))],[(74,0)])] ⟨rfl,trivial⟩ (fun E h => IxOk.opE (x_call (xs:=[.tmp 73]) Tryz.call12 (FnK.go (t_aj.h _) hr15) ⟨(agC _ h.1 rfl rfl),trivial⟩ (resC (f:=eSModule) inferInstance resN) rfl) rfl) ?_
 refine dG [(72,_),(11,_),(74,_)] [([(75,some (B r16))],[(75,0)])] ⟨rfl,rfl,rfl,trivial⟩ (fun E h => IxOk.opE (x_call (xs:=[.tmp 72,.tmp 74]) Tryz.call17 (FnK.go (t_a8.h _ _) hr16) ⟨(agC _ h.1 (cloA (cloC rfl (cloC rfl (cloC (cloS h.2.1 rfl inferInstance) cloN)))) rfl),⟨(agC _ h.2.2.1 (cloA (cloC rfl (cloC rfl (cloC (cloO inferInstance) cloN)))) rfl),trivial⟩⟩ (resC (f:=B) inferInstance resN) rfl) rfl) ?_
 refine d_not [(75,_)] ?_
 refine dNA mixedP ?_
 refine nA (cn h (fun hc h => ?_) (fun hc h => ?_))
 refine sR (a_as ?_)
 refine rN (CW.ret (rA ?_))
 obtain rfl:=sI h
 exact rT
 refine CW.skip (nA (CW.seq (sR (a_mv ?_))))
 refine a_mv ?_
 obtain ⟨r17,hr17,h⟩:=bd h
 refine oP (x_call (xs:=[.tmp 78]) Tryz.call13 (FnK.go (t_C.h _) hr17) ⟨(agC _ rfl rfl rfl),trivial⟩ (resC (f:=lM) inferInstance resN) rfl) ?_
 obtain ⟨r18,hr18,h⟩:=bd h
 refine cA Tryz.call15 (FnK.go (t_E.h _ _) hr18) ?_
 refine a_not ?_
 refine rN (cn h (fun hc h => ?_) (fun hc h => ?_))
 refine sR (a_as ?_)
 refine rN (CW.ret (rA ?_))
 obtain rfl:=sI h
 exact rT
 refine CW.skip (nA (sR (a_as ?_)))
 refine rN (sR (a_ldp ?_))
 refine a_mv ?_
 obtain ⟨r19,hr19,h⟩:=bd h
 refine oP (x_callA (xs:=[.tmp 82,.tmp 83]) 0 82 10 [(0,[0,0]),(1,[1,0]),(2,[2,0])] 2 Tryz.call18 (t_aW.h _ _ _ hr19) (.cons 0 [0,0] _ _ _ _ _ rfl rfl rfl rfl (clean_of (cleanL (Enc.clean (f:=I)))) rfl rfl rfl (.cons 1 [1,0] _ _ _ _ _ rfl rfl rfl rfl (clean_of (cleanL (Enc.clean (f:=lV)))) rfl rfl rfl (.cons 2 [2,0] _ _ _ _ _ rfl rfl rfl rfl (clean_of (cleanL (Enc.clean (f:=lM)))) rfl rfl rfl (.nil _)))) rfl (Enc.clean (f:=eSPr) _) (Enc.rofree (f:=eSPr) _) ⟨(agLd rfl (Enc.clean (f:=eSPr) _) (Enc.rofree (f:=eSPr) _)),⟨(agM _ rfl rfl rfl),trivial⟩⟩ (resC (f:=I) inferInstance resN) (.cons 0 [0,0] _ _ _ _ _ _ rfl rfl rfl rfl (clean_of (cleanL (Enc.clean (f:=I)))) rfl rfl rfl (.cons 1 [1,0] _ _ _ _ _ _ rfl rfl rfl rfl (clean_of (cleanL (Enc.clean (f:=lV)))) rfl rfl rfl (.cons 2 [2,0] _ _ _ _ _ _ rfl rfl rfl rfl (clean_of (cleanL (Enc.clean (f:=lM)))) rfl rfl rfl (.nil _)))) rfl rfl rfl) ?_
 refine a_as ?_
 refine rN (sR (a_ldp ?_))
 refine a_mv ?_
 obtain ⟨r20,hr20,h⟩:=bd h
 refine oP (x_callA (xs:=[.tmp 85,.tmp 86]) 0 85 11 [(2,[2,0])] 2 Tryz.call19 (t_aQ.h _ _ _ hr20) (.cons 2 [2,0] _ _ _ _ _ rfl rfl rfl rfl (clean_of (cleanL (Enc.clean (f:=lM)))) rfl rfl rfl (.nil _)) rfl (Enc.clean (f:=eSModule) _) (Enc.rofree (f:=eSModule) _) ⟨(agLd rfl (Enc.clean (f:=eSModule) _) (Enc.rofree (f:=eSModule) _)),⟨(agM _ rfl rfl rfl),trivial⟩⟩ (resC (f:=I) inferInstance resN) (.cons 2 [2,0] _ _ _ _ _ _ rfl rfl rfl rfl (clean_of (cleanL (Enc.clean (f:=lM)))) rfl rfl rfl (.nil _)) rfl rfl rfl) ?_
 refine a_as ?_
 refine rN (CW.seq (CW.to [(2,T.ro (lM x2)),(3,T.ptr (qPr x0)),(4,T.ptr (qModule x1)),(8,L 1 lV r7.1),(9,I r7.2),(12,L 1 lV r10),(13,L 1 lV r11.1),(14,I r11.2),(15,I r20.1)] ⟨rfl,rfl,rfl,rfl,rfl,rfl,rfl,rfl,rfl,trivial⟩ ?_))
 refine CW.region (a_mv ?_)
 refine a_mv ?_
 obtain ⟨r21,hr21,h⟩:=bd h
 refine oP (x_callM (xs:=[.tmp 88,.tmp 89]) 0 88 12 [] Tryz.call20 (t_K.h _ _ _ hr21) rfl rfl rfl (clean_of (cleanL (Enc.clean (f:=lV)))) (clean_of (cleanL (Enc.clean (f:=lV)))) (Enc.rofree (f:=L 1 lV) _) (Enc.rofree (f:=L 1 lV) _) ⟨(agLd rfl (clean_of (cleanL (Enc.clean (f:=lV)))) (Enc.rofree (f:=L 1 lV) _)),⟨(agM _ rfl rfl rfl),trivial⟩⟩ (resC (f:=I) inferInstance resN) rfl rfl rfl rfl) ?_
 refine a_as ?_
 refine rN (CW.seq (sR (a_mv ?_)))
 refine a_lss ?_
 refine a_mv ?_
 refine RW.cases 93 _ rfl (fun hc => ?_) (fun hc => ?_)
 have h:=cT hc h
 refine sk2 ?_
 refine sk2 ?_
 refine sk2 ?_
 refine sk2 ?_
 refine a_pick ?_
 refine a_mv ?_
 refine sk2 ?_
 refine sk2 ?_
 refine sk2 ?_
 refine a_pick ?_
 refine rN (CW.condT rfl ?_)
 refine sR (a_as ?_)
 refine rN (CW.ret (rA ?_))
 obtain rfl:=sI h
 exact rT
 have h:=cF hc h
 refine g_mv ?_
 refine g_mv ?_
 obtain ⟨r22,hr22,h⟩:=bd h
 refine RW.cons (IxOk.guard 2 false 93 (x_call (xs:=[.tmp 94,.tmp 95]) Tryz.call15 (FnK.go (t_E.h _ _) hr22) ⟨(agC _ rfl (cloS rfl rfl inferInstance) rfl),⟨(agC _ rfl (cloS rfl rfl inferInstance) rfl),trivial⟩⟩ (resC (f:=B) inferInstance resN) rfl)) ?_
 refine g_not ?_
 refine a_pick ?_
 refine a_mv ?_
 refine RW.cases 99 _ rfl (fun hc => ?_) (fun hc => ?_)
 have h:=cT hc h
 refine sk2 ?_
 refine sk2 ?_
 refine sk2 ?_
 refine a_pick ?_
 refine rN (CW.condT rfl ?_)
 refine sR (a_as ?_)
 refine rN (CW.ret (rA ?_))
 obtain rfl:=sI h
 exact rT
 have h:=cF hc h
 refine g_mv ?_
 refine g_mv ?_
 refine g_neq ?_
 refine a_pick ?_
 refine rN (cn h (fun hc h => ?_) (fun hc h => ?_))
 refine sR (a_as ?_)
 refine rN (CW.ret (rA ?_))
 obtain rfl:=sI h
 exact rT
 refine CW.skip (nA (sR (a_as ?_)))
 refine rN (sR (a_mv ?_))
 refine a_mv ?_
 obtain ⟨r23,hr23,h⟩:=bd h
 refine oP (x_callM (xs:=[.tmp 104,.tmp 105]) 0 104 13 [] Tryz.call20 (t_K.h _ _ _ hr23) rfl rfl rfl (clean_of (cleanL (Enc.clean (f:=lV)))) (clean_of (cleanL (Enc.clean (f:=lV)))) (Enc.rofree (f:=L 1 lV) _) (Enc.rofree (f:=L 1 lV) _) ⟨(agLd rfl (clean_of (cleanL (Enc.clean (f:=lV)))) (Enc.rofree (f:=L 1 lV) _)),⟨(agM _ rfl rfl rfl),trivial⟩⟩ (resC (f:=I) inferInstance resN) rfl rfl rfl rfl) ?_
 refine a_as ?_
 refine rN (sR (a_as ?_))
 refine rN (sR (a_mv ?_))
 refine a_mv ?_
 obtain ⟨r24,hr24,h⟩:=bd h
 refine oP (x_call (xs:=[.tmp 107,.tmp 108]) Tryz.call21 (FnK.go (t_av.h _ _) hr24) ⟨(agC _ rfl (cloS rfl rfl inferInstance) rfl),⟨(agC _ rfl rfl rfl),trivial⟩⟩ (resC (f:=I) inferInstance resN) rfl) ?_
 refine a_as ?_
 refine rN (CW.seq (CW.seq (CW.to [(2,T.ro (lM x2)),(3,T.ptr (qPr x0)),(4,T.ptr (qModule x1)),(8,L 1 lV r7.1),(9,I r7.2),(13,L 1 lV r23.2),(16,I r23.1),(17,I r24)] ⟨rfl,rfl,rfl,rfl,rfl,rfl,rfl,rfl,trivial⟩ ?_)))
 refine CW.region (a_mv ?_)
 refine a_lss ?_
 refine rN (cn h (fun hc h => ?_) (fun hc h => ?_))
 refine sR (a_as ?_)
 refine rN (CW.ret (rA ?_))
 obtain rfl:=sI h
 exact rT
 refine CW.skip (nA (CW.seq (sR (a_mv ?_))))
 refine a_mv ?_
 refine a_neq ?_
 refine rN (cn h (fun hc h => ?_) (fun hc h => ?_))
 refine sR (a_as ?_)
 refine rN (CW.ret (rA ?_))
 obtain rfl:=sI h
 exact rT
 refine CW.skip (nA (CW.seq ?_))
 obtain ⟨r25,hr25,h⟩:=bd h
 obtain ⟨r26,hr26,h⟩:=bd h
 obtain ⟨r27,hr27,h⟩:=bd h
 obtain ⟨r28,hr28,h⟩:=bd h
 refine CW.dk ?_
 refine d_ldp [(3,_)] ?_
 refine dG [(116,_)] [([(117,some (eSPr r25))],[(117,0)])] ⟨rfl,trivial⟩ (fun E h => IxOk.opE (x_call (xs:=[.tmp 116]) Tryz.call11 (FnK.go (t_ai.h _) hr25) ⟨(agC _ h.1 rfl rfl),trivial⟩ (resC (f:=eSPr) inferInstance resN) rfl) rfl) ?_
 refine d_ldp [(4,_)] ?_
 refine dG [(118,_)] [([(119,some (eSModule r26))],[(119,0)])] ⟨rfl,trivial⟩ (fun E h => IxOk.opE (x_call (xs:=[.tmp 118]) Tryz.call12 (FnK.go (t_aj.h _) hr26) ⟨(agC _ h.1 rfl rfl),trivial⟩ (resC (f:=eSModule) inferInstance resN) rfl) rfl) ?_
 refine d_mv [(2,_)] ?_
 refine dG [(120,_)] [([(121,some (L 1 lV r27))],[(121,0)])] ⟨rfl,trivial⟩ (fun E h => IxOk.opE (x_call (xs:=[.tmp 120]) Tryz.call13 (FnK.go (t_C.h _) hr27) ⟨(agC _ h.1 rfl rfl),trivial⟩ (resC (f:=lM) inferInstance resN) rfl) rfl) ?_
 refine dG [(117,_),(119,_),(121,_)] [([(122,some (T.tup [L 1 lV r28.1,I r28.2]))],[(122,0)])] ⟨rfl,rfl,rfl,trivial⟩ (fun E h => IxOk.opE (x_call (xs:=[.tmp 117,.tmp 119,.tmp 121]) Tryz.call14 (FnK.go (t_aX.h _ _ _) hr28) ⟨(agC _ h.1 (cloA (cloC (cloO inferInstance) (cloC (cloO inferInstance) (cloC (cloO inferInstance) cloN)))) rfl),⟨(agC _ h.2.1 (cloA (cloC rfl (cloC rfl (cloC (cloO inferInstance) cloN)))) rfl),⟨(agC _ h.2.2.1 (cloO inferInstance) rfl),trivial⟩⟩⟩ (resC (f:=lM) inferInstance (resC (f:=I) inferInstance resN)) rfl) rfl) ?_
 refine d_mvT [(122,_)] ?_
 refine d_ext [(115,_)] ?_
 refine d_ext [(115,_)] ?_
 refine d_as [(123,_)] ?_
 refine d_as [(124,_)] ?_
 refine dNA mixedP ?_
 refine nA (CW.ghost (Ghost.trq 18 122 [0] rfl rfl rfl (clean_of (cleanL (Enc.clean (f:=lV)))) rfl) ?_)
 refine CW.seq (sR (a_mv ?_))
 refine a_mv ?_
 obtain ⟨r29,hr29,h⟩:=bd h
 refine cA Tryz.call15 (FnK.go (t_E.h _ _) hr29) ?_
 refine a_not ?_
 refine a_mv ?_
 refine RW.cases 129 _ rfl (fun hc => ?_) (fun hc => ?_)
 have h:=cT hc h
 refine sk2 ?_
 refine sk2 ?_
 refine sk2 ?_
 refine a_pick ?_
 refine rN (CW.condT rfl ?_)
 refine CW.seq (CW.to [] trivial ?_)
 refine CW.region (a_as ?_)
 refine rN (CW.ret (rA ?_))
 obtain rfl:=sI h
 exact rT
 have h:=cF hc h
 refine g_mv ?_
 refine g_mv ?_
 refine g_neq ?_
 refine a_pick ?_
 refine rN (cn h (fun hc h => ?_) (fun hc h => ?_))
 refine CW.seq (CW.to [] trivial ?_)
 refine CW.region (a_as ?_)
 refine rN (CW.ret (rA ?_))
 obtain rfl:=sI h
 exact rT
 refine CW.skip (nA (CW.seq (CW.to [(13,L 1 lV r23.2),(16,I r23.1)] ⟨rfl,rfl,trivial⟩ ?_)))
 refine CW.region (a_as ?_)
 refine rN (sR (a_mv ?_))
 refine a_mv ?_
 obtain ⟨r30,hr30,h⟩:=bd h
 refine oP (x_call (xs:=[.tmp 134,.tmp 135]) Tryz.call21 (FnK.go (t_av.h _ _) hr30) ⟨(agC _ rfl (cloS rfl rfl inferInstance) rfl),⟨(agC _ rfl rfl rfl),trivial⟩⟩ (resC (f:=I) inferInstance resN) rfl) ?_
 refine a_as ?_
 refine rN (CW.seq (sR (a_mv ?_)))
 refine a_lss ?_
 refine rN (cn h (fun hc h => ?_) (fun hc h => ?_))
 refine sR (a_as ?_)
 refine rN (CW.ret (rA ?_))
 obtain rfl:=sI h
 exact rT
 refine CW.skip (nA (CW.seq (sR (a_mv ?_))))
 refine a_mv ?_
 refine a_neq ?_
 refine rN (cn h (fun hc h => ?_) (fun hc h => ?_))
 refine sR (a_as ?_)
 refine rN (CW.ret (rA ?_))
 obtain rfl:=sI h
 exact rT
 refine CW.skip (nA (sR (a_as ?_)))
 refine rN (CW.ret ?_)
 obtain rfl:=sI h
 exact rT
instance t_aY:FI Tryz.prog 3 (∀ (x0:SPr) (x1:SModule) (x2:List (List Int)),FnK Tryz.prog 3 [qPr x0,qModule x1,T.ro (lM x2)] (fun r:Bool => [B r]) (fun _ => []) (f_aY x0 x1 x2)):=⟨Tryz.call3,fun x0 x1 x2 => FnK.mk (u_aY x0 x1 x2)⟩
section
attribute [local irreducible] RW CW DK OkL Ok Andthen InBlock Round RetG XS.post rng quoO remO ixO sliceO appO appzO lenOk loopO GTo Ghost FnC FnK LocL OptL Kp Lk BsL BuL RpL Bk Lc
end
section
attribute [local irreducible] RW CW DK OkL Ok Andthen InBlock Round RetG XS.post rng quoO remO ixO sliceO appO appzO lenOk loopO GTo Ghost FnC FnK LocL OptL Kp Lk BsL BuL RpL Bk Lc
end
section
attribute [local irreducible] RW CW DK OkL Ok Andthen InBlock Round RetG XS.post rng quoO remO ixO sliceO appO appzO lenOk loopO GTo Ghost FnC FnK LocL OptL Kp Lk BsL BuL RpL Bk Lc
end
section
attribute [local irreducible] RW CW DK OkL Ok Andthen InBlock Round RetG XS.post rng quoO remO ixO sliceO appO appzO lenOk loopO GTo Ghost FnC FnK LocL OptL Kp Lk BsL BuL RpL Bk Lc
end
section
attribute [local irreducible] RW CW DK OkL Ok Andthen InBlock Round RetG XS.post rng quoO remO ixO sliceO appO appzO lenOk loopO GTo Ghost FnC FnK LocL OptL Kp Lk BsL BuL RpL Bk Lc
end
section
attribute [local irreducible] RW CW DK OkL Ok Andthen InBlock Round RetG XS.post rng quoO remO ixO sliceO appO appzO lenOk loopO GTo Ghost FnC FnK LocL OptL Kp Lk BsL BuL RpL Bk Lc
end
section
attribute [local irreducible] RW CW DK OkL Ok Andthen InBlock Round RetG XS.post rng quoO remO ixO sliceO appO appzO lenOk loopO GTo Ghost FnC FnK LocL OptL Kp Lk BsL BuL RpL Bk Lc
end
end Go.Wk
