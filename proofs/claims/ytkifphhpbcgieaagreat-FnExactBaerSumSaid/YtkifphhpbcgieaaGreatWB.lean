/- The program and the reference return the same Baer sums of cocycles, for all arguments (FnExactBaerSum). This file is a part of the proof. -/
import Derived.Test.YtkifphhpbcgieaaGreatWA
namespace Go.Wk
open Go Go.Proofs Go.Ab
set_option maxRecDepth 100000
set_option maxHeartbeats 1000000
section
attribute [local irreducible] RW CW DK OkL Ok Andthen InBlock Round RetG XS.post rng quoO remO ixO sliceO appO appzO lenOk loopO GTo Ghost FnC FnK LocL OptL Kp Lk BsL BuL RpL Bk Lc
instance t_a4:FI Tryz.prog 22 (∀ (x0:SPr) (x1:SModule) (x2:List (List Int)) (x3:List (List Int)),FnK Tryz.prog 22 [qPr x0,qModule x1,T.ro (lM x2),T.ro (lM x3)] (fun r:(List (List Int)) × Int => [lM r.1,I r.2]) (fun _ => []) (f_a4 x0 x1 x2 x3)):=⟨Tryz.call22,fun x0 x1 x2 x3 => iF Tryz.func22⟩
instance t_aX:FI Tryz.prog 23 (∀ (x0:SPr) (x1:SModule) (x2:List (List Int)) (x3:List (List Int)),FnK Tryz.prog 23 [qPr x0,qModule x1,T.ro (lM x2),T.ro (lM x3)] (fun r:(List (List Int)) × Int => [lM r.1,I r.2]) (fun _ => []) (f_aX x0 x1 x2 x3)):=⟨Tryz.call23,fun x0 x1 x2 x3 => iF Tryz.func23⟩
end
theorem u_aY (x0:SPr) (x1:SModule) (x2:List (List Int)) (x3:List (List Int)) (r:Bool) (h:f_aY x0 x1 x2 x3 = some r):FnC Tryz.prog 4 [qPr x0,qModule x1,T.ro (lM x2),T.ro (lM x3)] [B r] []:=by
 refine fB Tryz.func4 (fun St W w0 v => ?_)
 refine sR (a_box ?_)
 refine a_box ?_
 refine a_as ?_
 refine rN (sR (a_as ?_))
 refine rN (sR (a_ldp ?_))
 refine a_mv ?_
 obtain ⟨r1,hr1,h⟩:=bd h
 refine cA Tryz.call7 (FnK.go (t_a6.h _ _) hr1) ?_
 refine a_as ?_
 refine rN (CW.seq (sR (a_mv ?_)))
 refine a_lss ?_
 refine rN (cn h (fun hc h => ?_) (fun hc h => ?_))
 refine sR (a_as ?_)
 refine rN (CW.ret (rA ?_))
 obtain rfl:=sI h
 exact rT
 refine CW.skip (nA (sR (a_ldp ?_)))
 refine a_mv ?_
 obtain ⟨r2,hr2,h⟩:=bd h
 refine cA Tryz.call8 (FnK.go (t_a7.h _ _) hr2) ?_
 refine a_as ?_
 refine rN (CW.seq (sR (a_mv ?_)))
 refine a_lss ?_
 refine rN (cn h (fun hc h => ?_) (fun hc h => ?_))
 refine sR (a_as ?_)
 refine rN (CW.ret (rA ?_))
 obtain rfl:=sI h
 exact rT
 refine CW.skip (nA (sR (a_mv ?_)))
 refine a_mv ?_
 obtain ⟨r3,hr3,h⟩:=bd h
 refine cA Tryz.call9 (FnK.go (t_ag.h _ _) hr3) ?_
 refine a_as ?_
 refine rN (CW.seq (sR (a_mv ?_)))
 refine a_lss ?_
 refine rN (cn h (fun hc h => ?_) (fun hc h => ?_))
 refine sR (a_as ?_)
 refine rN (CW.ret (rA ?_))
 obtain rfl:=sI h
 exact rT
 refine CW.skip (nA (sR (a_mv ?_)))
 refine a_mv ?_
 obtain ⟨r4,hr4,h⟩:=bd h
 refine cA Tryz.call9 (FnK.go (t_ag.h _ _) hr4) ?_
 refine a_as ?_
 refine rN (CW.seq (CW.seq (CW.to [(2,T.ro (lM x2)),(3,T.ro (lM x3)),(4,T.ptr (qPr x0)),(5,T.ptr (qModule x1)),(9,I r4)] ⟨rfl,rfl,rfl,rfl,rfl,trivial⟩ ?_)))
 refine CW.region (a_mv ?_)
 refine a_lss ?_
 refine rN (cn h (fun hc h => ?_) (fun hc h => ?_))
 refine sR (a_as ?_)
 refine rN (CW.ret (rA ?_))
 obtain rfl:=sI h
 exact rT
 refine CW.skip (nA (CW.seq ?_))
 obtain ⟨r5,hr5,h⟩:=bd h
 obtain ⟨r6,hr6,h⟩:=bd h
 obtain ⟨r7,hr7,h⟩:=bd h
 obtain ⟨r8,hr8,h⟩:=bd h
 obtain ⟨r9,hr9,h⟩:=bd h
 refine CW.dk ?_
 refine d_ldp [(4,_)] ?_
 refine dG [(44,_)] [([(45,some (eSPr r5))],[(45,0)])] ⟨rfl,trivial⟩ (fun E h => IxOk.opE (x_call (xs:=[.tmp 44]) Tryz.call11 (FnK.go (t_aj.h _) hr5) ⟨(agC _ h.1 rfl rfl),trivial⟩ (resC (f:=eSPr) inferInstance resN) rfl) rfl) ?_
 refine d_ldp [(5,_)] ?_
 refine dG [(46,_)] [([(47,some (eSModule r6))],[(47,0)])] ⟨rfl,trivial⟩ (fun E h => IxOk.opE (x_call (xs:=[.tmp 46]) Tryz.call12 (FnK.go (t_ak.h _) hr6) ⟨(agC _ h.1 rfl rfl),trivial⟩ (resC (f:=eSModule) inferInstance resN) rfl) rfl) ?_
 refine d_mv [(2,_)] ?_
 refine dG [(48,_)] [([(49,some (L 1 lV r7))],[(49,0)])] ⟨rfl,trivial⟩ (fun E h => IxOk.opE (x_call (xs:=[.tmp 48]) Tryz.call13 (FnK.go (t_q.h _) hr7) ⟨(agC _ h.1 rfl rfl),trivial⟩ (resC (f:=lM) inferInstance resN) rfl) rfl) ?_
 refine d_mv [(3,_)] ?_
 refine dG [(50,_)] [([(51,some (L 1 lV r8))],[(51,0)])] ⟨rfl,trivial⟩ (fun E h => IxOk.opE (x_call (xs:=[.tmp 50]) Tryz.call13 (FnK.go (t_q.h _) hr8) ⟨(agC _ h.1 rfl rfl),trivial⟩ (resC (f:=lM) inferInstance resN) rfl) rfl) ?_
 refine dG [(45,_),(47,_),(49,_),(51,_)] [([(52,some (T.tup [L 1 lV r9.1,I r9.2]))],[(52,0)])] ⟨rfl,rfl,rfl,rfl,trivial⟩ (fun E h => IxOk.opE (x_call (xs:=[.tmp 45,.tmp 47,.tmp 49,.tmp 51]) Tryz.call22 (FnK.go (t_a4.h _ _ _ _) hr9) ⟨(agC _ h.1 (cloA (cloC (cloO inferInstance) (cloC (cloO inferInstance) (cloC (cloO inferInstance) cloN)))) rfl),⟨(agC _ h.2.1 (cloA (cloC rfl (cloC rfl (cloC (cloO inferInstance) cloN)))) rfl),⟨(agC _ h.2.2.1 (cloO inferInstance) rfl),⟨(agC _ h.2.2.2.1 (cloO inferInstance) rfl),trivial⟩⟩⟩⟩ (resC (f:=lM) inferInstance (resC (f:=I) inferInstance resN)) rfl) rfl) ?_
 refine d_mvT [(52,_)] ?_
 refine d_ext [(43,_)] ?_
 refine d_ext [(43,_)] ?_
 refine d_as [(53,_)] ?_
 refine d_as [(54,_)] ?_
 refine dNA mixedP ?_
 refine nA (CW.ghost (Ghost.trq 10 52 [0] rfl rfl rfl (clean_of (cleanL (Enc.clean (f:=lV)))) rfl) ?_)
 refine sR (a_ldp ?_)
 obtain ⟨r10,hr10,h⟩:=bd h
 refine oP (x_call (xs:=[.tmp 55]) Tryz.call11 (FnK.go (t_aj.h _) hr10) ⟨(agC _ rfl rfl rfl),trivial⟩ (resC (f:=eSPr) inferInstance resN) rfl) ?_
 refine a_alloc ?_
 refine oP (x_stp inf_34 rfl (locB rfl rfl) rfl rfl rfl rfl (clean_of (cleanA ⟨(cleanL (Enc.clean (f:=I))),(cleanL (Enc.clean (f:=lV))),(cleanL (Enc.clean (f:=lM))),trivial⟩)) rfl) ?_
 refine rN (sR (a_ldp ?_))
 obtain ⟨r11,hr11,h⟩:=bd h
 refine oP (x_call (xs:=[.tmp 57]) Tryz.call12 (FnK.go (t_ak.h _) hr11) ⟨(agC _ rfl rfl rfl),trivial⟩ (resC (f:=eSModule) inferInstance resN) rfl) ?_
 refine a_alloc ?_
 refine oP (x_stp inf_36 rfl (locB rfl rfl) rfl rfl rfl rfl (clean_of (cleanA ⟨(Enc.clean (f:=I) _),(Enc.clean (f:=I) _),(cleanL (Enc.clean (f:=lM))),trivial⟩)) rfl) ?_
 refine rN (CW.seq (CW.to [(2,T.ro (lM x2)),(3,T.ro (lM x3)),(4,T.ptr (qPr x0)),(5,T.ptr (qModule x1)),(10,L 1 lV r9.1),(11,I r9.2),(12,T.ptr (eSPr r10)),(13,T.ptr (eSModule r11))] ⟨rfl,rfl,rfl,rfl,rfl,rfl,rfl,rfl,trivial⟩ ?_))
 refine CW.region (a_mv ?_)
 obtain ⟨r12,hr12,h⟩:=bd h
 refine oP (x_call (xs:=[.tmp 59]) Tryz.call13 (FnK.go (t_q.h _) hr12) ⟨(agC _ rfl rfl rfl),trivial⟩ (resC (f:=lM) inferInstance resN) rfl) ?_
 refine a_as ?_
 refine RW.ghost (Ghost.tr 14 60 _ rfl rfl (clean_of (cleanL (Enc.clean (f:=lV)))) rfl) ?_
 refine rN (sR (a_mv ?_))
 obtain ⟨r13,hr13,h⟩:=bd h
 refine oP (x_call (xs:=[.tmp 61]) Tryz.call13 (FnK.go (t_q.h _) hr13) ⟨(agC _ rfl rfl rfl),trivial⟩ (resC (f:=lM) inferInstance resN) rfl) ?_
 refine a_as ?_
 refine RW.ghost (Ghost.tr 15 62 _ rfl rfl (clean_of (cleanL (Enc.clean (f:=lV)))) rfl) ?_
 refine rN (sR (a_ldp ?_))
 refine a_ldp ?_
 refine a_mv ?_
 refine a_mv ?_
 obtain ⟨r14,hr14,h⟩:=bd h
 refine oP (x_call (xs:=[.tmp 64,.tmp 65,.tmp 66,.tmp 67]) Tryz.call23 (FnK.go (t_aX.h _ _ _ _) hr14) ⟨(agC _ rfl (cloA (cloC (cloS rfl rfl inferInstance) (cloC (cloS rfl rfl inferInstance) (cloC (cloS rfl rfl inferInstance) cloN)))) rfl),⟨(agC _ rfl (cloA (cloC rfl (cloC rfl (cloC (cloS rfl rfl inferInstance) cloN)))) rfl),⟨(agC _ rfl (cloS rfl rfl inferInstance) rfl),⟨(agC _ rfl (cloS rfl rfl inferInstance) rfl),trivial⟩⟩⟩⟩ (resC (f:=lM) inferInstance (resC (f:=I) inferInstance resN)) rfl) ?_
 refine a_mvT ?_
 refine a_ext ?_
 refine a_ext ?_
 refine a_as ?_
 refine a_as ?_
 refine RW.ghost (Ghost.trq 16 68 [0] rfl rfl rfl (clean_of (cleanL (Enc.clean (f:=lV)))) rfl) ?_
 refine rN (CW.seq (sR (a_mv ?_)))
 refine a_mv ?_
 obtain ⟨r15,hr15,h⟩:=bd h
 refine oP (x_call (xs:=[.tmp 71,.tmp 72]) Tryz.call15 (FnK.go (t_A.h _ _) hr15) ⟨(agC _ rfl (cloS rfl rfl inferInstance) rfl),⟨(agC _ rfl (cloS rfl rfl inferInstance) rfl),trivial⟩⟩ (resC (f:=B) inferInstance resN) rfl) ?_
 refine a_not ?_
 refine a_mv ?_
 refine RW.cases 75 _ rfl (fun hc => ?_) (fun hc => ?_)
 have h:=cT hc h
 refine sk2 ?_
 refine sk2 ?_
 refine sk2 ?_
 refine a_pick ?_
 refine rN (CW.condT rfl ?_)
 refine CW.seq (CW.to [] trivial ?_)
 refine CW.region (a_as ?_)
 refine rN (CW.ret (rA ?_))
 obtain rfl:=sI h
 exact rT
 have h:=cF hc h
 refine g_mv ?_
 refine g_mv ?_
 refine g_neq ?_
 refine a_pick ?_
 refine rN (cn h (fun hc h => ?_) (fun hc h => ?_))
 refine CW.seq (CW.to [] trivial ?_)
 refine CW.region (a_as ?_)
 refine rN (CW.ret (rA ?_))
 obtain rfl:=sI h
 exact rT
 refine CW.skip (nA (CW.seq (CW.seq (CW.to [(2,T.ro (lM x2)),(3,T.ro (lM x3)),(4,T.ptr (qPr x0)),(5,T.ptr (qModule x1)),(10,L 1 lV r9.1),(11,I r9.2),(12,T.ptr (eSPr r10)),(13,T.ptr (eSModule r11)),(14,L 1 lV r12),(15,L 1 lV r13),(16,L 1 lV r14.1),(17,I r14.2)] ⟨rfl,rfl,rfl,rfl,rfl,rfl,rfl,rfl,rfl,rfl,rfl,rfl,trivial⟩ ?_))))
 obtain ⟨r16,hr16,h⟩:=bd h
 obtain ⟨r17,hr17,h⟩:=bd h
 refine CW.dk ?_
 refine d_ldp [(12,_)] ?_
 refine d_ldp [(4,_)] ?_
 refine dG [(81,_)] [([(82,some (eSPr r16))],[(82,0)])] ⟨rfl,trivial⟩ (fun E h => IxOk.opE (x_call (xs:=[.tmp 81]) Tryz.call11 (FnK.go (t_aj.h _) hr16) ⟨(agC _ h.1 rfl rfl),trivial⟩ (resC (f:=eSPr) inferInstance resN) rfl) rfl) ?_
 refine dG [(80,_),(12,_),(82,_)] [([(83,some (B r17))],[(83,0)])] ⟨rfl,rfl,rfl,trivial⟩ (fun E h => IxOk.opE (x_call (xs:=[.tmp 80,.tmp 82]) Tryz.call16 (FnK.go (t_a9.h _ _) hr17) ⟨(agC _ h.1 (cloA (cloC (cloS h.2.1 rfl inferInstance) (cloC (cloS h.2.1 rfl inferInstance) (cloC (cloS h.2.1 rfl inferInstance) cloN)))) rfl),⟨(agC _ h.2.2.1 (cloA (cloC (cloO inferInstance) (cloC (cloO inferInstance) (cloC (cloO inferInstance) cloN)))) rfl),trivial⟩⟩ (resC (f:=B) inferInstance resN) rfl) rfl) ?_
 refine d_not [(83,_)] ?_
 refine dNA mixedP ?_
 refine nA (cn h (fun hc h => ?_) (fun hc h => ?_))
 refine sR (a_as ?_)
 refine rN (CW.ret (rA ?_))
 obtain rfl:=sI h
 exact rT
 refine CW.skip (nA (CW.seq (CW.seq ?_)))
 obtain ⟨r18,hr18,h⟩:=bd h
 obtain ⟨r19,hr19,h⟩:=bd h
 refine CW.dk ?_
 refine d_ldp [(13,_)] ?_
 refine d_ldp [(5,_)] ?_
 refine dG [(86,_)] [([(87,some (eSModule r18))],[(87,0)])] ⟨rfl,trivial⟩ (fun E h => IxOk.opE (x_call (xs:=[.tmp 86]) Tryz.call12 (FnK.go (t_ak.h _) hr18) ⟨(agC _ h.1 rfl rfl),trivial⟩ (resC (f:=eSModule) inferInstance resN) rfl) rfl) ?_
 refine dG [(85,_),(13,_),(87,_)] [([(88,some (B r19))],[(88,0)])] ⟨rfl,rfl,rfl,trivial⟩ (fun E h => IxOk.opE (x_call (xs:=[.tmp 85,.tmp 87]) Tryz.call17 (FnK.go (t_a8.h _ _) hr19) ⟨(agC _ h.1 (cloA (cloC rfl (cloC rfl (cloC (cloS h.2.1 rfl inferInstance) cloN)))) rfl),⟨(agC _ h.2.2.1 (cloA (cloC rfl (cloC rfl (cloC (cloO inferInstance) cloN)))) rfl),trivial⟩⟩ (resC (f:=B) inferInstance resN) rfl) rfl) ?_
 refine d_not [(88,_)] ?_
 refine dNA mixedP ?_
 refine nA (cn h (fun hc h => ?_) (fun hc h => ?_))
 refine sR (a_as ?_)
 refine rN (CW.ret (rA ?_))
 obtain rfl:=sI h
 exact rT
 refine CW.skip (nA (CW.seq (sR (a_mv ?_))))
 refine a_mv ?_
 obtain ⟨r20,hr20,h⟩:=bd h
 refine oP (x_call (xs:=[.tmp 91]) Tryz.call13 (FnK.go (t_q.h _) hr20) ⟨(agC _ rfl rfl rfl),trivial⟩ (resC (f:=lM) inferInstance resN) rfl) ?_
 obtain ⟨r21,hr21,h⟩:=bd h
 refine cA Tryz.call15 (FnK.go (t_A.h _ _) hr21) ?_
 refine a_not ?_
 refine rN (cn h (fun hc h => ?_) (fun hc h => ?_))
 refine sR (a_as ?_)
 refine rN (CW.ret (rA ?_))
 obtain rfl:=sI h
 exact rT
 refine CW.skip (nA (CW.seq (sR (a_mv ?_))))
 refine a_mv ?_
 obtain ⟨r22,hr22,h⟩:=bd h
 refine oP (x_call (xs:=[.tmp 96]) Tryz.call13 (FnK.go (t_q.h _) hr22) ⟨(agC _ rfl rfl rfl),trivial⟩ (resC (f:=lM) inferInstance resN) rfl) ?_
 obtain ⟨r23,hr23,h⟩:=bd h
 refine cA Tryz.call15 (FnK.go (t_A.h _ _) hr23) ?_
 refine a_not ?_
 refine rN (cn h (fun hc h => ?_) (fun hc h => ?_))
 refine sR (a_as ?_)
 refine rN (CW.ret (rA ?_))
 obtain rfl:=sI h
 exact rT
 refine CW.skip (nA (sR (a_as ?_)))
 refine rN (sR (a_ldp ?_))
 refine a_mv ?_
 obtain ⟨r24,hr24,h⟩:=bd h
 refine oP (x_callA (xs:=[.tmp 100,.tmp 101]) 0 100 12 [(0,[0,0]),(1,[1,0]),(2,[2,0])] 2 Tryz.call18 (t_aW.h _ _ _ hr24) (.cons 0 [0,0] _ _ _ _ _ rfl rfl rfl rfl (clean_of (cleanL (Enc.clean (f:=I)))) rfl rfl rfl (.cons 1 [1,0] _ _ _ _ _ rfl rfl rfl rfl (clean_of (cleanL (Enc.clean (f:=lV)))) rfl rfl rfl (.cons 2 [2,0] _ _ _ _ _ rfl rfl rfl rfl (clean_of (cleanL (Enc.clean (f:=lM)))) rfl rfl rfl (.nil _)))) rfl (Enc.clean (f:=eSPr) _) (Enc.rofree (f:=eSPr) _) ⟨(agLd rfl (Enc.clean (f:=eSPr) _) (Enc.rofree (f:=eSPr) _)),⟨(agM _ rfl rfl rfl),trivial⟩⟩ (resC (f:=I) inferInstance resN) (.cons 0 [0,0] _ _ _ _ _ _ rfl rfl rfl rfl (clean_of (cleanL (Enc.clean (f:=I)))) rfl rfl rfl (.cons 1 [1,0] _ _ _ _ _ _ rfl rfl rfl rfl (clean_of (cleanL (Enc.clean (f:=lV)))) rfl rfl rfl (.cons 2 [2,0] _ _ _ _ _ _ rfl rfl rfl rfl (clean_of (cleanL (Enc.clean (f:=lM)))) rfl rfl rfl (.nil _)))) rfl rfl rfl) ?_
 refine a_as ?_
 refine rN (CW.seq (CW.to [(2,T.ro (lM x2)),(3,T.ro (lM x3)),(4,T.ptr (qPr x0)),(5,T.ptr (qModule x1)),(10,L 1 lV r9.1),(11,I r9.2),(13,T.ptr (eSModule r11)),(14,L 1 lV r12),(15,L 1 lV r13),(16,L 1 lV r14.1),(17,I r14.2),(18,I r24.1)] ⟨rfl,rfl,rfl,rfl,rfl,rfl,rfl,rfl,rfl,rfl,rfl,rfl,trivial⟩ ?_))
 refine CW.region (a_ldp ?_)
 refine a_mv ?_
 obtain ⟨r25,hr25,h⟩:=bd h
 refine oP (x_callA (xs:=[.tmp 103,.tmp 104]) 0 103 13 [(2,[2,0])] 2 Tryz.call19 (t_aQ.h _ _ _ hr25) (.cons 2 [2,0] _ _ _ _ _ rfl rfl rfl rfl (clean_of (cleanL (Enc.clean (f:=lM)))) rfl rfl rfl (.nil _)) rfl (Enc.clean (f:=eSModule) _) (Enc.rofree (f:=eSModule) _) ⟨(agLd rfl (Enc.clean (f:=eSModule) _) (Enc.rofree (f:=eSModule) _)),⟨(agM _ rfl rfl rfl),trivial⟩⟩ (resC (f:=I) inferInstance resN) (.cons 2 [2,0] _ _ _ _ _ _ rfl rfl rfl rfl (clean_of (cleanL (Enc.clean (f:=lM)))) rfl rfl rfl (.nil _)) rfl rfl rfl) ?_
 refine a_as ?_
 refine rN (sR (a_mv ?_))
 refine a_mv ?_
 obtain ⟨r26,hr26,h⟩:=bd h
 refine oP (x_callM (xs:=[.tmp 106,.tmp 107]) 0 106 14 [] Tryz.call20 (t_F.h _ _ _ hr26) rfl rfl rfl (clean_of (cleanL (Enc.clean (f:=lV)))) (clean_of (cleanL (Enc.clean (f:=lV)))) (Enc.rofree (f:=L 1 lV) _) (Enc.rofree (f:=L 1 lV) _) ⟨(agLd rfl (clean_of (cleanL (Enc.clean (f:=lV)))) (Enc.rofree (f:=L 1 lV) _)),⟨(agM _ rfl rfl rfl),trivial⟩⟩ (resC (f:=I) inferInstance resN) rfl rfl rfl rfl) ?_
 refine a_as ?_
 refine rN (sR (a_mv ?_))
 refine a_mv ?_
 obtain ⟨r27,hr27,h⟩:=bd h
 refine oP (x_callM (xs:=[.tmp 109,.tmp 110]) 0 109 15 [] Tryz.call20 (t_F.h _ _ _ hr27) rfl rfl rfl (clean_of (cleanL (Enc.clean (f:=lV)))) (clean_of (cleanL (Enc.clean (f:=lV)))) (Enc.rofree (f:=L 1 lV) _) (Enc.rofree (f:=L 1 lV) _) ⟨(agLd rfl (clean_of (cleanL (Enc.clean (f:=lV)))) (Enc.rofree (f:=L 1 lV) _)),⟨(agM _ rfl rfl rfl),trivial⟩⟩ (resC (f:=I) inferInstance resN) rfl rfl rfl rfl) ?_
 refine a_as ?_
 refine rN (CW.seq (sR (a_mv ?_)))
 refine a_lss ?_
 refine a_mv ?_
 refine RW.cases 114 _ rfl (fun hc => ?_) (fun hc => ?_)
 have h:=cT hc h
 refine sk2 ?_
 refine sk2 ?_
 refine sk2 ?_
 refine sk2 ?_
 refine a_pick ?_
 refine a_mv ?_
 refine sk2 ?_
 refine sk2 ?_
 refine sk2 ?_
 refine a_pick ?_
 refine rN (CW.condT rfl ?_)
 refine CW.seq (CW.to [] trivial ?_)
 refine CW.region (a_as ?_)
 refine rN (CW.ret (rA ?_))
 obtain rfl:=sI h
 exact rT
 have h:=cF hc h
 refine g_mv ?_
 refine g_mv ?_
 obtain ⟨r28,hr28,h⟩:=bd h
 refine RW.cons (IxOk.guard 2 false 114 (x_call (xs:=[.tmp 115,.tmp 116]) Tryz.call15 (FnK.go (t_A.h _ _) hr28) ⟨(agC _ rfl (cloS rfl rfl inferInstance) rfl),⟨(agC _ rfl (cloS rfl rfl inferInstance) rfl),trivial⟩⟩ (resC (f:=B) inferInstance resN) rfl)) ?_
 refine g_not ?_
 refine a_pick ?_
 refine a_mv ?_
 refine RW.cases 120 _ rfl (fun hc => ?_) (fun hc => ?_)
 have h:=cT hc h
 refine sk2 ?_
 refine sk2 ?_
 refine sk2 ?_
 refine a_pick ?_
 refine rN (CW.condT rfl ?_)
 refine CW.seq (CW.to [] trivial ?_)
 refine CW.region (a_as ?_)
 refine rN (CW.ret (rA ?_))
 obtain rfl:=sI h
 exact rT
 have h:=cF hc h
 refine g_mv ?_
 refine g_mv ?_
 refine g_neq ?_
 refine a_pick ?_
 refine rN (cn h (fun hc h => ?_) (fun hc h => ?_))
 refine CW.seq (CW.to [] trivial ?_)
 refine CW.region (a_as ?_)
 refine rN (CW.ret (rA ?_))
 obtain rfl:=sI h
 exact rT
 refine CW.skip (nA (CW.seq (CW.to [(2,T.ro (lM x2)),(3,T.ro (lM x3)),(4,T.ptr (qPr x0)),(5,T.ptr (qModule x1)),(10,L 1 lV r9.1),(11,I r9.2),(16,L 1 lV r14.1)] ⟨rfl,rfl,rfl,rfl,rfl,rfl,rfl,trivial⟩ ?_)))
 refine CW.region (a_as ?_)
 refine rN (sR (a_mv ?_))
 refine a_mv ?_
 obtain ⟨r29,hr29,h⟩:=bd h
 refine oP (x_callM (xs:=[.tmp 125,.tmp 126]) 0 125 16 [] Tryz.call20 (t_F.h _ _ _ hr29) rfl rfl rfl (clean_of (cleanL (Enc.clean (f:=lV)))) (clean_of (cleanL (Enc.clean (f:=lV)))) (Enc.rofree (f:=L 1 lV) _) (Enc.rofree (f:=L 1 lV) _) ⟨(agLd rfl (clean_of (cleanL (Enc.clean (f:=lV)))) (Enc.rofree (f:=L 1 lV) _)),⟨(agM _ rfl rfl rfl),trivial⟩⟩ (resC (f:=I) inferInstance resN) rfl rfl rfl rfl) ?_
 refine a_as ?_
 refine rN (sR (a_as ?_))
 refine rN (sR (a_mv ?_))
 refine a_mv ?_
 obtain ⟨r30,hr30,h⟩:=bd h
 refine oP (x_call (xs:=[.tmp 128,.tmp 129]) Tryz.call21 (FnK.go (t_aw.h _ _) hr30) ⟨(agC _ rfl (cloS rfl rfl inferInstance) rfl),⟨(agC _ rfl rfl rfl),trivial⟩⟩ (resC (f:=I) inferInstance resN) rfl) ?_
 refine a_as ?_
 refine rN (CW.seq (sR (a_mv ?_)))
 refine a_lss ?_
 refine rN (cn h (fun hc h => ?_) (fun hc h => ?_))
 refine sR (a_as ?_)
 refine rN (CW.ret (rA ?_))
 obtain rfl:=sI h
 exact rT
 refine CW.skip (nA (CW.seq (sR (a_mv ?_))))
 refine a_mv ?_
 refine a_neq ?_
 refine rN (cn h (fun hc h => ?_) (fun hc h => ?_))
 refine sR (a_as ?_)
 refine rN (CW.ret (rA ?_))
 obtain rfl:=sI h
 exact rT
 refine CW.skip (nA (CW.seq ?_))
 obtain ⟨r31,hr31,h⟩:=bd h
 obtain ⟨r32,hr32,h⟩:=bd h
 obtain ⟨r33,hr33,h⟩:=bd h
 obtain ⟨r34,hr34,h⟩:=bd h
 obtain ⟨r35,hr35,h⟩:=bd h
 refine CW.dk ?_
 refine d_ldp [(4,_)] ?_
 refine dG [(137,_)] [([(138,some (eSPr r31))],[(138,0)])] ⟨rfl,trivial⟩ (fun E h => IxOk.opE (x_call (xs:=[.tmp 137]) Tryz.call11 (FnK.go (t_aj.h _) hr31) ⟨(agC _ h.1 rfl rfl),trivial⟩ (resC (f:=eSPr) inferInstance resN) rfl) rfl) ?_
 refine d_ldp [(5,_)] ?_
 refine dG [(139,_)] [([(140,some (eSModule r32))],[(140,0)])] ⟨rfl,trivial⟩ (fun E h => IxOk.opE (x_call (xs:=[.tmp 139]) Tryz.call12 (FnK.go (t_ak.h _) hr32) ⟨(agC _ h.1 rfl rfl),trivial⟩ (resC (f:=eSModule) inferInstance resN) rfl) rfl) ?_
 refine d_mv [(2,_)] ?_
 refine dG [(141,_)] [([(142,some (L 1 lV r33))],[(142,0)])] ⟨rfl,trivial⟩ (fun E h => IxOk.opE (x_call (xs:=[.tmp 141]) Tryz.call13 (FnK.go (t_q.h _) hr33) ⟨(agC _ h.1 rfl rfl),trivial⟩ (resC (f:=lM) inferInstance resN) rfl) rfl) ?_
 refine d_mv [(3,_)] ?_
 refine dG [(143,_)] [([(144,some (L 1 lV r34))],[(144,0)])] ⟨rfl,trivial⟩ (fun E h => IxOk.opE (x_call (xs:=[.tmp 143]) Tryz.call13 (FnK.go (t_q.h _) hr34) ⟨(agC _ h.1 rfl rfl),trivial⟩ (resC (f:=lM) inferInstance resN) rfl) rfl) ?_
 refine dG [(138,_),(140,_),(142,_),(144,_)] [([(145,some (T.tup [L 1 lV r35.1,I r35.2]))],[(145,0)])] ⟨rfl,rfl,rfl,rfl,trivial⟩ (fun E h => IxOk.opE (x_call (xs:=[.tmp 138,.tmp 140,.tmp 142,.tmp 144]) Tryz.call23 (FnK.go (t_aX.h _ _ _ _) hr35) ⟨(agC _ h.1 (cloA (cloC (cloO inferInstance) (cloC (cloO inferInstance) (cloC (cloO inferInstance) cloN)))) rfl),⟨(agC _ h.2.1 (cloA (cloC rfl (cloC rfl (cloC (cloO inferInstance) cloN)))) rfl),⟨(agC _ h.2.2.1 (cloO inferInstance) rfl),⟨(agC _ h.2.2.2.1 (cloO inferInstance) rfl),trivial⟩⟩⟩⟩ (resC (f:=lM) inferInstance (resC (f:=I) inferInstance resN)) rfl) rfl) ?_
 refine d_mvT [(145,_)] ?_
 refine d_ext [(136,_)] ?_
 refine d_ext [(136,_)] ?_
 refine d_as [(146,_)] ?_
 refine d_as [(147,_)] ?_
 refine dNA mixedP ?_
 refine nA (CW.ghost (Ghost.trq 21 145 [0] rfl rfl rfl (clean_of (cleanL (Enc.clean (f:=lV)))) rfl) ?_)
 refine CW.seq (CW.seq (CW.to [(10,L 1 lV r9.1),(11,I r9.2),(16,L 1 lV r29.2),(19,I r29.1),(21,L 1 lV r35.1),(22,I r35.2)] ⟨rfl,rfl,rfl,rfl,rfl,rfl,trivial⟩ ?_))
 refine CW.region (a_mv ?_)
 refine a_mv ?_
 obtain ⟨r36,hr36,h⟩:=bd h
 refine cA Tryz.call15 (FnK.go (t_A.h _ _) hr36) ?_
 refine a_not ?_
 refine a_mv ?_
 refine RW.cases 152 _ rfl (fun hc => ?_) (fun hc => ?_)
 have h:=cT hc h
 refine sk2 ?_
 refine sk2 ?_
 refine sk2 ?_
 refine a_pick ?_
 refine rN (CW.condT rfl ?_)
 refine sR (a_as ?_)
 refine rN (CW.ret (rA ?_))
 obtain rfl:=sI h
 exact rT
 have h:=cF hc h
 refine g_mv ?_
 refine g_mv ?_
 refine g_neq ?_
 refine a_pick ?_
 refine rN (cn h (fun hc h => ?_) (fun hc h => ?_))
 refine sR (a_as ?_)
 refine rN (CW.ret (rA ?_))
 obtain rfl:=sI h
 exact rT
 refine CW.skip (nA (sR (a_as ?_)))
 refine rN (sR (a_mv ?_))
 refine a_mv ?_
 obtain ⟨r37,hr37,h⟩:=bd h
 refine oP (x_call (xs:=[.tmp 157,.tmp 158]) Tryz.call21 (FnK.go (t_aw.h _ _) hr37) ⟨(agC _ rfl (cloS rfl rfl inferInstance) rfl),⟨(agC _ rfl rfl rfl),trivial⟩⟩ (resC (f:=I) inferInstance resN) rfl) ?_
 refine a_as ?_
 refine rN (CW.seq (sR (a_mv ?_)))
 refine a_lss ?_
 refine rN (cn h (fun hc h => ?_) (fun hc h => ?_))
 refine sR (a_as ?_)
 refine rN (CW.ret (rA ?_))
 obtain rfl:=sI h
 exact rT
 refine CW.skip (nA (CW.seq (sR (a_mv ?_))))
 refine a_mv ?_
 refine a_neq ?_
 refine rN (cn h (fun hc h => ?_) (fun hc h => ?_))
 refine sR (a_as ?_)
 refine rN (CW.ret (rA ?_))
 obtain rfl:=sI h
 exact rT
 refine CW.skip (nA (sR (a_as ?_)))
 refine rN (CW.ret ?_)
 obtain rfl:=sI h
 exact rT
instance t_aY:FI Tryz.prog 4 (∀ (x0:SPr) (x1:SModule) (x2:List (List Int)) (x3:List (List Int)),FnK Tryz.prog 4 [qPr x0,qModule x1,T.ro (lM x2),T.ro (lM x3)] (fun r:Bool => [B r]) (fun _ => []) (f_aY x0 x1 x2 x3)):=⟨Tryz.call4,fun x0 x1 x2 x3 => FnK.mk (u_aY x0 x1 x2 x3)⟩
section
attribute [local irreducible] RW CW DK OkL Ok Andthen InBlock Round RetG XS.post rng quoO remO ixO sliceO appO appzO lenOk loopO GTo Ghost FnC FnK LocL OptL Kp Lk BsL BuL RpL Bk Lc
end
section
attribute [local irreducible] RW CW DK OkL Ok Andthen InBlock Round RetG XS.post rng quoO remO ixO sliceO appO appzO lenOk loopO GTo Ghost FnC FnK LocL OptL Kp Lk BsL BuL RpL Bk Lc
end
section
attribute [local irreducible] RW CW DK OkL Ok Andthen InBlock Round RetG XS.post rng quoO remO ixO sliceO appO appzO lenOk loopO GTo Ghost FnC FnK LocL OptL Kp Lk BsL BuL RpL Bk Lc
end
section
attribute [local irreducible] RW CW DK OkL Ok Andthen InBlock Round RetG XS.post rng quoO remO ixO sliceO appO appzO lenOk loopO GTo Ghost FnC FnK LocL OptL Kp Lk BsL BuL RpL Bk Lc
end
section
attribute [local irreducible] RW CW DK OkL Ok Andthen InBlock Round RetG XS.post rng quoO remO ixO sliceO appO appzO lenOk loopO GTo Ghost FnC FnK LocL OptL Kp Lk BsL BuL RpL Bk Lc
end
section
attribute [local irreducible] RW CW DK OkL Ok Andthen InBlock Round RetG XS.post rng quoO remO ixO sliceO appO appzO lenOk loopO GTo Ghost FnC FnK LocL OptL Kp Lk BsL BuL RpL Bk Lc
end
end Go.Wk
