/- x -/
import Derived.Test.YtbemegmelmannaaGreatDoorVac
import Derived.Test.YtbemegmelmannaaGreatDoorVaf
import Derived.Test.YtbemegmelmannaaGreatDoorVad
import Derived.Test.YtbemegmelmannaaGreatDoorVan
import Derived.Test.YtbemegmelmannaaGreatDoorWT
namespace Go.Wk
open Go Go.Proofs Go.Ab
set_option maxRecDepth 100000
set_option maxHeartbeats 4000000
theorem tb_v {g_i:Sl36Reader → Option ((List SNode) × Sl36Reader)} (H_i:∀ (x0:Sl36Reader) r,g_i x0 = some r → FnC Tryz.prog 20 [T.ptr (eSl36Reader x0)] [(L 3 eSNode) r.1] [(0,(Pt eSl36Reader) r.2)]) (x0:Sl36Reader) (r:(List SNode) × Sl36Reader) (h:b_v g_i x0 = some r):FnC Tryz.prog 42 [T.ptr (eSl36Reader x0)] [(L 3 eSNode) r.1] [(0,(Pt eSl36Reader) r.2)]:=by
 refine fB2 Tryz.func42 (fun St W w0 v => ?_)
 refine sR (oP (x_nil 3 rfl) ?_)
 refine rN (CW.seq (CW.seq (CW.casesB x0.failed (fun hc0 => ?_) (fun hc0 => ?_))))
 have h:=cT hc0 h
 refine CW.dk ?_
 refine d_mv [(0,_)] ?_
 refine d_nilc [(9,_),(0,_)] ?_
 refine d_fa [(10,_),(0,_)] ?_
 refine dG [(11,_),(0,_)] [([(12,some (B true))],[(12,0)])] ⟨rfl,rfl,trivial⟩ (fun E h => IxOk.opE (okB_eq hc0 (x_ld (x:=.tmp 11) (var_4.h _ rfl rfl) h.1 h.2.1 rfl rfl)) rfl) ?_
 refine d_mv [(12,_)] ?_
 refine dsk2 ?_
 refine dsk2 ?_
 refine dsk2 ?_
 refine dsk2 ?_
 refine dsk2 ?_
 refine dsk2 ?_
 refine dsk2 ?_
 refine dsk2 ?_
 refine dsk2 ?_
 refine dsk2 ?_
 refine d_pick [(13,_)] ?_
 refine dNA mixedP ?_
 refine nA (CW.condT rfl ?_)
 refine sR (a_mv ?_)
 refine a_nilc ?_
 refine a_fa ?_
 refine oP (x_stcT (u:=B true) inf_4 rfl rfl rfl rfl rfl rfl rfl) ?_
 refine rN (sR (oP (x_nil 3 rfl) ?_))
 refine rN (CW.ret (rA ?_))
 obtain rfl:=sI h
 exact rT
 have h:=cF hc0 h
 refine CW.dk ?_
 refine d_mv [(0,_)] ?_
 refine d_nilc [(9,_),(0,_)] ?_
 refine d_fa [(10,_),(0,_)] ?_
 refine dG [(11,_),(0,_)] [([(12,some (B false))],[(12,0)])] ⟨rfl,rfl,trivial⟩ (fun E h => IxOk.opE (okB_eq hc0 (x_ld (x:=.tmp 11) (var_4.h _ rfl rfl) h.1 h.2.1 rfl rfl)) rfl) ?_
 refine d_mv [(12,_)] ?_
 refine e_mv [(0,_),(13,_)] ?_
 refine e_nilc [(14,_),(0,_),(13,_)] ?_
 refine e_fa [(15,_),(0,_),(13,_)] ?_
 refine e_ld [(16,_),(0,_),(13,_)] ?_
 refine e_mv [(0,_),(13,_)] ?_
 refine e_nilc [(18,_),(0,_),(13,_)] ?_
 refine e_fa [(19,_),(0,_),(13,_)] ?_
 refine e_ld [(20,_),(0,_),(13,_)] ?_
 refine dG [(21,_),(13,_)] [([(22,some (I (x0.text.size:Int)))],[(22,0)])] ⟨rfl,rfl,trivial⟩ (fun E h => IxOk.guardE 4 false 13 (x_lenS Tryz.underlying9 h.1 rfl) rfl rfl h.2.1 rfl) ?_
 refine e_geq [(17,_),(22,_),(13,_)] ?_
 refine d_pick [(13,_),(23,_)] ?_
 refine dNA mixedP ?_
 refine nA (cn h (fun hc h => ?_) (fun hc h => ?_))
 refine sR (a_mv ?_)
 refine a_nilc ?_
 refine a_fa ?_
 refine oP (x_stcT (u:=B true) inf_4 rfl rfl rfl rfl rfl rfl rfl) ?_
 refine rN (sR (oP (x_nil 3 rfl) ?_))
 refine rN (CW.ret (rA ?_))
 obtain rfl:=sI h
 exact rT
 refine CW.skip (nA (CW.seq ?_))
 obtain ⟨v1,hv1,h⟩:=bd h
 obtain ⟨v2,hv2,h⟩:=bd h
 refine CW.dk ?_
 refine d_mv [(0,_)] ?_
 refine d_nilc [(28,_),(0,_)] ?_
 refine d_fa [(29,_),(0,_)] ?_
 refine d_ld [(30,_),(0,_)] ?_
 refine d_mv [(0,_)] ?_
 refine d_nilc [(32,_),(0,_)] ?_
 refine d_fa [(33,_),(0,_)] ?_
 refine d_ld [(34,_),(0,_)] ?_
 refine d_mv [(0,_)] ?_
 refine d_nilc [(36,_),(0,_)] ?_
 refine d_fa [(37,_),(0,_)] ?_
 refine d_ld [(38,_),(0,_)] ?_
 refine dG [(39,_)] [([(40,some (I v1))],[(40,0)])] ⟨rfl,trivial⟩ (fun E h => IxOk.opE (x_add hv1 h.1 rfl rfl) rfl) ?_
 refine dG [(31,_),(35,_),(40,_)] [([(41,some (Str v2))],[(41,0)])] ⟨rfl,rfl,rfl,trivial⟩ (fun E h => IxOk.opE (x_sSl Tryz.underlying9 h.1 hv2 (optL hv2 h.2.1) (optH hv2 h.2.2.1) rfl) rfl) ?_
 refine d_as [(41,_)] ?_
 refine dNA mixedP ?_
 refine nA (CW.seq (CW.block (CW.seq (CW.to [(0,T.ptr (eSl36Reader x0)),(3,Str v2)] ⟨rfl,rfl,trivial⟩ ?_))))
 refine CW.region (a_mv ?_)
 refine oP (x_sEq rfl rfl rfl) ?_
 refine a_mv ?_
 refine RW.cases 45 _ rfl (fun hc => ?_) (fun hc => ?_)
 have h:=cT hc h
 refine sk2 ?_
 refine sk2 ?_
 refine a_pick ?_
 refine a_as ?_
 refine rN (CW.condT rfl ?_)
 refine sR (a_as ?_)
 refine a_as ?_
 refine rN (CW.seq (sR (a_mv ?_)))
 refine oP (x_sEq rfl rfl rfl) ?_
 refine rN (cn h (fun hc h => ?_) (fun hc h => ?_))
 refine CW.region (a_as ?_)
 refine a_as ?_
 refine rN (sR (a_mv ?_))
 refine a_mv ?_
 refine a_mv ?_
 obtain ⟨r3,hr3,h⟩:=bd h
 refine oP (x_callM (xs:=[.tmp 52,.tmp 53]) 0 52 0 [] Tryz.call52 (t_K.h _ _ _ hr3) rfl rfl rfl (clean_of (cleanP (cleanA ⟨(Enc.clean (f:=Str) _),(Enc.clean (f:=I) _),(Enc.clean (f:=B) _),trivial⟩))) (clean_of (cleanP (cleanA ⟨(Enc.clean (f:=Str) _),(Enc.clean (f:=I) _),(Enc.clean (f:=B) _),trivial⟩))) rfl rfl ⟨(agLd rfl (clean_of (cleanP (cleanA ⟨(Enc.clean (f:=Str) _),(Enc.clean (f:=I) _),(Enc.clean (f:=B) _),trivial⟩))) rfl),⟨(agM _ rfl rfl rfl),trivial⟩⟩ (resC (f:=Str) inferInstance resN) rfl rfl rfl rfl) ?_
 refine oP (x_build bld_49 [(0,.tmp 51),(1,.tmp 54)] [(0,.slot 51 (I 1)),(1,.slot 54 (Str r3.1))] [.slot 51 (I 1),.slot 54 (Str r3.1),.zero (Str ByteArray.empty)] (pkS rfl (clean_of (Enc.clean (f:=I) _)) rfl (pkS rfl (clean_of (Enc.clean (f:=Str) _)) rfl (pkZ rfl pkN))) (bqC (.slot _ _) (bqC (.slot _ _) bqN)) rfl) ?_
 refine a_alloc ?_
 refine oP (x_stp inf_49 rfl (locB rfl rfl) rfl rfl rfl rfl (clean_of (cleanA ⟨(Enc.clean (f:=I) _),(Enc.clean (f:=Str) _),(Enc.clean (f:=Str) _),trivial⟩)) rfl) ?_
 refine rN (CW.seq (sR (a_mv ?_)))
 refine a_nilc ?_
 refine a_fa ?_
 refine a_ld ?_
 refine a_mv ?_
 refine RW.cases 60 _ rfl (fun hc => ?_) (fun hc => ?_)
 have h:=cT hc h
 refine sk2 ?_
 refine sk2 ?_
 refine sk2 ?_
 refine a_pick ?_
 refine rN (CW.condT rfl ?_)
 refine CW.seq (CW.to [(0,T.ptr (eSl36Reader r3.2))] ⟨rfl,trivial⟩ ?_)
 refine CW.region (a_mv ?_)
 refine a_nilc ?_
 refine a_fa ?_
 refine oP (x_stcT (u:=B true) inf_4 rfl rfl rfl rfl rfl rfl rfl) ?_
 refine rN (sR (oP (x_nil 3 rfl) ?_))
 refine rN (CW.ret (rA (rB ?_)))
 refine rA ?_
 obtain rfl:=sI h
 exact rT
 have h:=cF hc h
 refine g_ldp ?_
 obtain ⟨r4,hr4,h⟩:=bd h
 refine RW.cons (IxOk.guard 4 false 60 (x_call (xs:=[.tmp 61]) Tryz.call25 (FnK.go (t_D.h _) hr4) ⟨(agC _ rfl rfl rfl),trivial⟩ (resC (f:=I) inferInstance resN) rfl)) ?_
 refine g_lss ?_
 refine a_pick ?_
 refine rN (cn h (fun hc h => ?_) (fun hc h => ?_))
 refine CW.seq (CW.to [(0,T.ptr (eSl36Reader r3.2))] ⟨rfl,trivial⟩ ?_)
 refine CW.region (a_mv ?_)
 refine a_nilc ?_
 refine a_fa ?_
 refine oP (x_stcT (u:=B true) inf_4 rfl rfl rfl rfl rfl rfl rfl) ?_
 refine rN (sR (oP (x_nil 3 rfl) ?_))
 refine rN (CW.ret (rA (rB ?_)))
 refine rA ?_
 obtain rfl:=sI h
 exact rT
 refine CW.skip (nA (CW.seq (CW.to [(0,T.ptr (eSl36Reader r3.2)),(6,T.ptr (T.agg [I 1,Str r3.1,Str ByteArray.empty]))] ⟨rfl,rfl,trivial⟩ ?_)))
 obtain ⟨v5,hv5,h⟩:=bd h
 obtain ⟨v6,hv6,h⟩:=bd h
 refine CW.dk ?_
 refine d_mv [(0,_)] ?_
 refine d_mv [(0,_)] ?_
 refine d_nilc [(69,_),(0,_)] ?_
 refine d_fa [(70,_),(0,_)] ?_
 refine d_ld [(71,_),(0,_)] ?_
 refine d_fa [(6,_)] ?_
 refine d_ld [(73,_),(6,_)] ?_
 refine dG [(74,_)] [([(75,some (I (r3.1.size:Int)))],[(75,0)])] ⟨rfl,trivial⟩ (fun E h => IxOk.opE (x_lenS Tryz.underlying9 h.1 rfl) rfl) ?_
 refine d_add [(72,_),(75,_)] ?_
 refine d_add [(76,_)] ?_
 refine d_nilc [(68,_),(0,_)] ?_
 refine d_fa [(78,_),(0,_)] ?_
 refine dG [(79,_),(0,_),(77,_)] [([(0,some (T.ptr (T.agg [Str r3.2.text,I v6,B r3.2.failed])))],[(0,2)])] ⟨rfl,rfl,rfl,trivial⟩ (fun E h => IxOk.opE (x_st inf_3 rfl h.1 h.2.1 rfl rfl h.2.2.1 (clean_of (Enc.clean (f:=I) _)) rfl) rfl) ?_
 refine dNA mixedP ?_
 refine nA (sR (a_ldp ?_))
 refine oP (x_bs elt_22 [.tmp 80] [.slot 80 (T.agg [I 1,Str r3.1,Str ByteArray.empty])] [(SNode.mk 1 r3.1 ByteArray.empty)] eSNode ⟨.slot _ _,trivial⟩ (pkS rfl (clean_of (cleanA ⟨(Enc.clean (f:=I) _),(Enc.clean (f:=Str) _),(Enc.clean (f:=Str) _),trivial⟩)) rfl pkN) rfl rfl) ?_
 refine a_as ?_
 refine RW.ghost (Ghost.tr 2 81 _ rfl rfl (clean_of (cleanL (Enc.clean (f:=eSNode)))) rfl) ?_
 refine rN (CW.ret (rB ?_))
 refine rA ?_
 obtain rfl:=sI h
 exact rT
 refine CW.skip (nA (sR (a_mv ?_)))
 refine a_mv ?_
 refine a_mv ?_
 obtain ⟨r7,hr7,h⟩:=bd h
 refine oP (x_callM (xs:=[.tmp 52,.tmp 53]) 0 52 0 [] Tryz.call52 (t_K.h _ _ _ hr7) rfl rfl rfl (clean_of (cleanP (cleanA ⟨(Enc.clean (f:=Str) _),(Enc.clean (f:=I) _),(Enc.clean (f:=B) _),trivial⟩))) (clean_of (cleanP (cleanA ⟨(Enc.clean (f:=Str) _),(Enc.clean (f:=I) _),(Enc.clean (f:=B) _),trivial⟩))) rfl rfl ⟨(agLd rfl (clean_of (cleanP (cleanA ⟨(Enc.clean (f:=Str) _),(Enc.clean (f:=I) _),(Enc.clean (f:=B) _),trivial⟩))) rfl),⟨(agM _ rfl rfl rfl),trivial⟩⟩ (resC (f:=Str) inferInstance resN) rfl rfl rfl rfl) ?_
 refine oP (x_build bld_49 [(0,.tmp 51),(1,.tmp 54)] [(0,.slot 51 (I 0)),(1,.slot 54 (Str r7.1))] [.slot 51 (I 0),.slot 54 (Str r7.1),.zero (Str ByteArray.empty)] (pkS rfl (clean_of (Enc.clean (f:=I) _)) rfl (pkS rfl (clean_of (Enc.clean (f:=Str) _)) rfl (pkZ rfl pkN))) (bqC (.slot _ _) (bqC (.slot _ _) bqN)) rfl) ?_
 refine a_alloc ?_
 refine oP (x_stp inf_49 rfl (locB rfl rfl) rfl rfl rfl rfl (clean_of (cleanA ⟨(Enc.clean (f:=I) _),(Enc.clean (f:=Str) _),(Enc.clean (f:=Str) _),trivial⟩)) rfl) ?_
 refine rN (CW.seq (sR (a_mv ?_)))
 refine a_nilc ?_
 refine a_fa ?_
 refine a_ld ?_
 refine a_mv ?_
 refine RW.cases 60 _ rfl (fun hc => ?_) (fun hc => ?_)
 have h:=cT hc h
 refine sk2 ?_
 refine sk2 ?_
 refine sk2 ?_
 refine a_pick ?_
 refine rN (CW.condT rfl ?_)
 refine CW.seq (CW.to [(0,T.ptr (eSl36Reader r7.2))] ⟨rfl,trivial⟩ ?_)
 refine CW.region (a_mv ?_)
 refine a_nilc ?_
 refine a_fa ?_
 refine oP (x_stcT (u:=B true) inf_4 rfl rfl rfl rfl rfl rfl rfl) ?_
 refine rN (sR (oP (x_nil 3 rfl) ?_))
 refine rN (CW.ret (rA (rB ?_)))
 refine rA ?_
 obtain rfl:=sI h
 exact rT
 have h:=cF hc h
 refine g_ldp ?_
 obtain ⟨r8,hr8,h⟩:=bd h
 refine RW.cons (IxOk.guard 4 false 60 (x_call (xs:=[.tmp 61]) Tryz.call25 (FnK.go (t_D.h _) hr8) ⟨(agC _ rfl rfl rfl),trivial⟩ (resC (f:=I) inferInstance resN) rfl)) ?_
 refine g_lss ?_
 refine a_pick ?_
 refine rN (cn h (fun hc h => ?_) (fun hc h => ?_))
 refine CW.seq (CW.to [(0,T.ptr (eSl36Reader r7.2))] ⟨rfl,trivial⟩ ?_)
 refine CW.region (a_mv ?_)
 refine a_nilc ?_
 refine a_fa ?_
 refine oP (x_stcT (u:=B true) inf_4 rfl rfl rfl rfl rfl rfl rfl) ?_
 refine rN (sR (oP (x_nil 3 rfl) ?_))
 refine rN (CW.ret (rA (rB ?_)))
 refine rA ?_
 obtain rfl:=sI h
 exact rT
 refine CW.skip (nA (CW.seq (CW.to [(0,T.ptr (eSl36Reader r7.2)),(6,T.ptr (T.agg [I 0,Str r7.1,Str ByteArray.empty]))] ⟨rfl,rfl,trivial⟩ ?_)))
 obtain ⟨v9,hv9,h⟩:=bd h
 obtain ⟨v10,hv10,h⟩:=bd h
 refine CW.dk ?_
 refine d_mv [(0,_)] ?_
 refine d_mv [(0,_)] ?_
 refine d_nilc [(69,_),(0,_)] ?_
 refine d_fa [(70,_),(0,_)] ?_
 refine d_ld [(71,_),(0,_)] ?_
 refine d_fa [(6,_)] ?_
 refine d_ld [(73,_),(6,_)] ?_
 refine dG [(74,_)] [([(75,some (I (r7.1.size:Int)))],[(75,0)])] ⟨rfl,trivial⟩ (fun E h => IxOk.opE (x_lenS Tryz.underlying9 h.1 rfl) rfl) ?_
 refine d_add [(72,_),(75,_)] ?_
 refine d_add [(76,_)] ?_
 refine d_nilc [(68,_),(0,_)] ?_
 refine d_fa [(78,_),(0,_)] ?_
 refine dG [(79,_),(0,_),(77,_)] [([(0,some (T.ptr (T.agg [Str r7.2.text,I v10,B r7.2.failed])))],[(0,2)])] ⟨rfl,rfl,rfl,trivial⟩ (fun E h => IxOk.opE (x_st inf_3 rfl h.1 h.2.1 rfl rfl h.2.2.1 (clean_of (Enc.clean (f:=I) _)) rfl) rfl) ?_
 refine dNA mixedP ?_
 refine nA (sR (a_ldp ?_))
 refine oP (x_bs elt_22 [.tmp 80] [.slot 80 (T.agg [I 0,Str r7.1,Str ByteArray.empty])] [(SNode.mk 0 r7.1 ByteArray.empty)] eSNode ⟨.slot _ _,trivial⟩ (pkS rfl (clean_of (cleanA ⟨(Enc.clean (f:=I) _),(Enc.clean (f:=Str) _),(Enc.clean (f:=Str) _),trivial⟩)) rfl pkN) rfl rfl) ?_
 refine a_as ?_
 refine RW.ghost (Ghost.tr 2 81 _ rfl rfl (clean_of (cleanL (Enc.clean (f:=eSNode)))) rfl) ?_
 refine rN (CW.ret (rB ?_))
 refine rA ?_
 obtain rfl:=sI h
 exact rT
 have h:=cF hc h
 refine g_mv ?_
 refine RW.cons (IxOk.guard 2 false 45 (x_sEq rfl rfl rfl)) ?_
 refine a_pick ?_
 refine a_as ?_
 refine rN (cn h (fun hc h => ?_) (fun hc h => ?_))
 refine sR (a_as ?_)
 refine a_as ?_
 refine rN (CW.seq (sR (a_mv ?_)))
 refine oP (x_sEq rfl rfl rfl) ?_
 refine rN (cn h (fun hc h => ?_) (fun hc h => ?_))
 refine CW.region (a_as ?_)
 refine a_as ?_
 refine rN (sR (a_mv ?_))
 refine a_mv ?_
 refine a_mv ?_
 obtain ⟨r11,hr11,h⟩:=bd h
 refine oP (x_callM (xs:=[.tmp 52,.tmp 53]) 0 52 0 [] Tryz.call52 (t_K.h _ _ _ hr11) rfl rfl rfl (clean_of (cleanP (cleanA ⟨(Enc.clean (f:=Str) _),(Enc.clean (f:=I) _),(Enc.clean (f:=B) _),trivial⟩))) (clean_of (cleanP (cleanA ⟨(Enc.clean (f:=Str) _),(Enc.clean (f:=I) _),(Enc.clean (f:=B) _),trivial⟩))) rfl rfl ⟨(agLd rfl (clean_of (cleanP (cleanA ⟨(Enc.clean (f:=Str) _),(Enc.clean (f:=I) _),(Enc.clean (f:=B) _),trivial⟩))) rfl),⟨(agM _ rfl rfl rfl),trivial⟩⟩ (resC (f:=Str) inferInstance resN) rfl rfl rfl rfl) ?_
 refine oP (x_build bld_49 [(0,.tmp 51),(1,.tmp 54)] [(0,.slot 51 (I 1)),(1,.slot 54 (Str r11.1))] [.slot 51 (I 1),.slot 54 (Str r11.1),.zero (Str ByteArray.empty)] (pkS rfl (clean_of (Enc.clean (f:=I) _)) rfl (pkS rfl (clean_of (Enc.clean (f:=Str) _)) rfl (pkZ rfl pkN))) (bqC (.slot _ _) (bqC (.slot _ _) bqN)) rfl) ?_
 refine a_alloc ?_
 refine oP (x_stp inf_49 rfl (locB rfl rfl) rfl rfl rfl rfl (clean_of (cleanA ⟨(Enc.clean (f:=I) _),(Enc.clean (f:=Str) _),(Enc.clean (f:=Str) _),trivial⟩)) rfl) ?_
 refine rN (CW.seq (sR (a_mv ?_)))
 refine a_nilc ?_
 refine a_fa ?_
 refine a_ld ?_
 refine a_mv ?_
 refine RW.cases 60 _ rfl (fun hc => ?_) (fun hc => ?_)
 have h:=cT hc h
 refine sk2 ?_
 refine sk2 ?_
 refine sk2 ?_
 refine a_pick ?_
 refine rN (CW.condT rfl ?_)
 refine CW.seq (CW.to [(0,T.ptr (eSl36Reader r11.2))] ⟨rfl,trivial⟩ ?_)
 refine CW.region (a_mv ?_)
 refine a_nilc ?_
 refine a_fa ?_
 refine oP (x_stcT (u:=B true) inf_4 rfl rfl rfl rfl rfl rfl rfl) ?_
 refine rN (sR (oP (x_nil 3 rfl) ?_))
 refine rN (CW.ret (rA (rB ?_)))
 refine rA ?_
 obtain rfl:=sI h
 exact rT
 have h:=cF hc h
 refine g_ldp ?_
 obtain ⟨r12,hr12,h⟩:=bd h
 refine RW.cons (IxOk.guard 4 false 60 (x_call (xs:=[.tmp 61]) Tryz.call25 (FnK.go (t_D.h _) hr12) ⟨(agC _ rfl rfl rfl),trivial⟩ (resC (f:=I) inferInstance resN) rfl)) ?_
 refine g_lss ?_
 refine a_pick ?_
 refine rN (cn h (fun hc h => ?_) (fun hc h => ?_))
 refine CW.seq (CW.to [(0,T.ptr (eSl36Reader r11.2))] ⟨rfl,trivial⟩ ?_)
 refine CW.region (a_mv ?_)
 refine a_nilc ?_
 refine a_fa ?_
 refine oP (x_stcT (u:=B true) inf_4 rfl rfl rfl rfl rfl rfl rfl) ?_
 refine rN (sR (oP (x_nil 3 rfl) ?_))
 refine rN (CW.ret (rA (rB ?_)))
 refine rA ?_
 obtain rfl:=sI h
 exact rT
 refine CW.skip (nA (CW.seq (CW.to [(0,T.ptr (eSl36Reader r11.2)),(6,T.ptr (T.agg [I 1,Str r11.1,Str ByteArray.empty]))] ⟨rfl,rfl,trivial⟩ ?_)))
 obtain ⟨v13,hv13,h⟩:=bd h
 obtain ⟨v14,hv14,h⟩:=bd h
 refine CW.dk ?_
 refine d_mv [(0,_)] ?_
 refine d_mv [(0,_)] ?_
 refine d_nilc [(69,_),(0,_)] ?_
 refine d_fa [(70,_),(0,_)] ?_
 refine d_ld [(71,_),(0,_)] ?_
 refine d_fa [(6,_)] ?_
 refine d_ld [(73,_),(6,_)] ?_
 refine dG [(74,_)] [([(75,some (I (r11.1.size:Int)))],[(75,0)])] ⟨rfl,trivial⟩ (fun E h => IxOk.opE (x_lenS Tryz.underlying9 h.1 rfl) rfl) ?_
 refine d_add [(72,_),(75,_)] ?_
 refine d_add [(76,_)] ?_
 refine d_nilc [(68,_),(0,_)] ?_
 refine d_fa [(78,_),(0,_)] ?_
 refine dG [(79,_),(0,_),(77,_)] [([(0,some (T.ptr (T.agg [Str r11.2.text,I v14,B r11.2.failed])))],[(0,2)])] ⟨rfl,rfl,rfl,trivial⟩ (fun E h => IxOk.opE (x_st inf_3 rfl h.1 h.2.1 rfl rfl h.2.2.1 (clean_of (Enc.clean (f:=I) _)) rfl) rfl) ?_
 refine dNA mixedP ?_
 refine nA (sR (a_ldp ?_))
 refine oP (x_bs elt_22 [.tmp 80] [.slot 80 (T.agg [I 1,Str r11.1,Str ByteArray.empty])] [(SNode.mk 1 r11.1 ByteArray.empty)] eSNode ⟨.slot _ _,trivial⟩ (pkS rfl (clean_of (cleanA ⟨(Enc.clean (f:=I) _),(Enc.clean (f:=Str) _),(Enc.clean (f:=Str) _),trivial⟩)) rfl pkN) rfl rfl) ?_
 refine a_as ?_
 refine RW.ghost (Ghost.tr 2 81 _ rfl rfl (clean_of (cleanL (Enc.clean (f:=eSNode)))) rfl) ?_
 refine rN (CW.ret (rB ?_))
 refine rA ?_
 obtain rfl:=sI h
 exact rT
 refine CW.skip (nA (sR (a_mv ?_)))
 refine a_mv ?_
 refine a_mv ?_
 obtain ⟨r15,hr15,h⟩:=bd h
 refine oP (x_callM (xs:=[.tmp 52,.tmp 53]) 0 52 0 [] Tryz.call52 (t_K.h _ _ _ hr15) rfl rfl rfl (clean_of (cleanP (cleanA ⟨(Enc.clean (f:=Str) _),(Enc.clean (f:=I) _),(Enc.clean (f:=B) _),trivial⟩))) (clean_of (cleanP (cleanA ⟨(Enc.clean (f:=Str) _),(Enc.clean (f:=I) _),(Enc.clean (f:=B) _),trivial⟩))) rfl rfl ⟨(agLd rfl (clean_of (cleanP (cleanA ⟨(Enc.clean (f:=Str) _),(Enc.clean (f:=I) _),(Enc.clean (f:=B) _),trivial⟩))) rfl),⟨(agM _ rfl rfl rfl),trivial⟩⟩ (resC (f:=Str) inferInstance resN) rfl rfl rfl rfl) ?_
 refine oP (x_build bld_49 [(0,.tmp 51),(1,.tmp 54)] [(0,.slot 51 (I 0)),(1,.slot 54 (Str r15.1))] [.slot 51 (I 0),.slot 54 (Str r15.1),.zero (Str ByteArray.empty)] (pkS rfl (clean_of (Enc.clean (f:=I) _)) rfl (pkS rfl (clean_of (Enc.clean (f:=Str) _)) rfl (pkZ rfl pkN))) (bqC (.slot _ _) (bqC (.slot _ _) bqN)) rfl) ?_
 refine a_alloc ?_
 refine oP (x_stp inf_49 rfl (locB rfl rfl) rfl rfl rfl rfl (clean_of (cleanA ⟨(Enc.clean (f:=I) _),(Enc.clean (f:=Str) _),(Enc.clean (f:=Str) _),trivial⟩)) rfl) ?_
 refine rN (CW.seq (sR (a_mv ?_)))
 refine a_nilc ?_
 refine a_fa ?_
 refine a_ld ?_
 refine a_mv ?_
 refine RW.cases 60 _ rfl (fun hc => ?_) (fun hc => ?_)
 have h:=cT hc h
 refine sk2 ?_
 refine sk2 ?_
 refine sk2 ?_
 refine a_pick ?_
 refine rN (CW.condT rfl ?_)
 refine CW.seq (CW.to [(0,T.ptr (eSl36Reader r15.2))] ⟨rfl,trivial⟩ ?_)
 refine CW.region (a_mv ?_)
 refine a_nilc ?_
 refine a_fa ?_
 refine oP (x_stcT (u:=B true) inf_4 rfl rfl rfl rfl rfl rfl rfl) ?_
 refine rN (sR (oP (x_nil 3 rfl) ?_))
 refine rN (CW.ret (rA (rB ?_)))
 refine rA ?_
 obtain rfl:=sI h
 exact rT
 have h:=cF hc h
 refine g_ldp ?_
 obtain ⟨r16,hr16,h⟩:=bd h
 refine RW.cons (IxOk.guard 4 false 60 (x_call (xs:=[.tmp 61]) Tryz.call25 (FnK.go (t_D.h _) hr16) ⟨(agC _ rfl rfl rfl),trivial⟩ (resC (f:=I) inferInstance resN) rfl)) ?_
 refine g_lss ?_
 refine a_pick ?_
 refine rN (cn h (fun hc h => ?_) (fun hc h => ?_))
 refine CW.seq (CW.to [(0,T.ptr (eSl36Reader r15.2))] ⟨rfl,trivial⟩ ?_)
 refine CW.region (a_mv ?_)
 refine a_nilc ?_
 refine a_fa ?_
 refine oP (x_stcT (u:=B true) inf_4 rfl rfl rfl rfl rfl rfl rfl) ?_
 refine rN (sR (oP (x_nil 3 rfl) ?_))
 refine rN (CW.ret (rA (rB ?_)))
 refine rA ?_
 obtain rfl:=sI h
 exact rT
 refine CW.skip (nA (CW.seq (CW.to [(0,T.ptr (eSl36Reader r15.2)),(6,T.ptr (T.agg [I 0,Str r15.1,Str ByteArray.empty]))] ⟨rfl,rfl,trivial⟩ ?_)))
 obtain ⟨v17,hv17,h⟩:=bd h
 obtain ⟨v18,hv18,h⟩:=bd h
 refine CW.dk ?_
 refine d_mv [(0,_)] ?_
 refine d_mv [(0,_)] ?_
 refine d_nilc [(69,_),(0,_)] ?_
 refine d_fa [(70,_),(0,_)] ?_
 refine d_ld [(71,_),(0,_)] ?_
 refine d_fa [(6,_)] ?_
 refine d_ld [(73,_),(6,_)] ?_
 refine dG [(74,_)] [([(75,some (I (r15.1.size:Int)))],[(75,0)])] ⟨rfl,trivial⟩ (fun E h => IxOk.opE (x_lenS Tryz.underlying9 h.1 rfl) rfl) ?_
 refine d_add [(72,_),(75,_)] ?_
 refine d_add [(76,_)] ?_
 refine d_nilc [(68,_),(0,_)] ?_
 refine d_fa [(78,_),(0,_)] ?_
 refine dG [(79,_),(0,_),(77,_)] [([(0,some (T.ptr (T.agg [Str r15.2.text,I v18,B r15.2.failed])))],[(0,2)])] ⟨rfl,rfl,rfl,trivial⟩ (fun E h => IxOk.opE (x_st inf_3 rfl h.1 h.2.1 rfl rfl h.2.2.1 (clean_of (Enc.clean (f:=I) _)) rfl) rfl) ?_
 refine dNA mixedP ?_
 refine nA (sR (a_ldp ?_))
 refine oP (x_bs elt_22 [.tmp 80] [.slot 80 (T.agg [I 0,Str r15.1,Str ByteArray.empty])] [(SNode.mk 0 r15.1 ByteArray.empty)] eSNode ⟨.slot _ _,trivial⟩ (pkS rfl (clean_of (cleanA ⟨(Enc.clean (f:=I) _),(Enc.clean (f:=Str) _),(Enc.clean (f:=Str) _),trivial⟩)) rfl pkN) rfl rfl) ?_
 refine a_as ?_
 refine RW.ghost (Ghost.tr 2 81 _ rfl rfl (clean_of (cleanL (Enc.clean (f:=eSNode)))) rfl) ?_
 refine rN (CW.ret (rB ?_))
 refine rA ?_
 obtain rfl:=sI h
 exact rT
 refine sR (a_mv ?_)
 obtain ⟨r19,hr19,h⟩:=bd h
 refine cA Tryz.call30 (FnK.go (t_ax.h _) hr19) ?_
 refine a_as ?_
 refine rN (cn h (fun hc h => ?_) (fun hc h => ?_))
 refine sR (a_mv ?_)
 refine a_nilc ?_
 refine a_fa ?_
 refine a_ld ?_
 obtain ⟨v20,hv20,h⟩:=bd h
 refine oP (x_add hv20 rfl rfl rfl) ?_
 refine a_nilc ?_
 refine a_fa ?_
 refine oP (x_st inf_3 rfl rfl rfl rfl rfl rfl (clean_of (Enc.clean (f:=I) _)) rfl) ?_
 refine rN (sR (a_mv ?_))
 refine oP (x_build bld_49 [(0,.const _),(1,.tmp 92)] [(0,.zero (I 2)),(1,.slot 92 (Str v2))] [.zero (I 2),.slot 92 (Str v2),.zero (Str ByteArray.empty)] (pkZ rfl (pkS rfl (clean_of (Enc.clean (f:=Str) _)) rfl (pkZ rfl pkN))) (bqC (.zero _ _ rfl) (bqC (.slot _ _) bqN)) rfl) ?_
 refine oP (x_bs elt_22 [.tmp 93] [.slot 93 (T.agg [I 2,Str v2,Str ByteArray.empty])] [(SNode.mk 2 v2 ByteArray.empty)] eSNode ⟨.slot _ _,trivial⟩ (pkS rfl (clean_of (cleanA ⟨(Enc.clean (f:=I) _),(Enc.clean (f:=Str) _),(Enc.clean (f:=Str) _),trivial⟩)) rfl pkN) rfl rfl) ?_
 refine a_as ?_
 refine RW.ghost (Ghost.tr 2 94 _ rfl rfl (clean_of (cleanL (Enc.clean (f:=eSNode)))) rfl) ?_
 refine rN (CW.ret (rB ?_))
 refine rA ?_
 obtain rfl:=sI h
 exact rT
 refine sR (a_mv ?_)
 refine oP (x_sEq rfl rfl rfl) ?_
 refine a_as ?_
 refine rN (cn h (fun hc h => ?_) (fun hc h => ?_))
 refine sR (a_mv ?_)
 refine a_nilc ?_
 refine a_fa ?_
 refine a_ld ?_
 obtain ⟨v21,hv21,h⟩:=bd h
 refine oP (x_add hv21 rfl rfl rfl) ?_
 refine a_nilc ?_
 refine a_fa ?_
 refine oP (x_st inf_3 rfl rfl rfl rfl rfl rfl (clean_of (Enc.clean (f:=I) _)) rfl) ?_
 refine rN (sR (a_mv ?_))
 obtain ⟨r22,hr22,h⟩:=bd h
 refine oP (x_callM (xs:=[.tmp 105]) 0 105 0 [] Tryz.call20 (H_i _ _ hr22) rfl rfl rfl (clean_of (cleanP (cleanA ⟨(Enc.clean (f:=Str) _),(Enc.clean (f:=I) _),(Enc.clean (f:=B) _),trivial⟩))) (clean_of (cleanP (cleanA ⟨(Enc.clean (f:=Str) _),(Enc.clean (f:=I) _),(Enc.clean (f:=B) _),trivial⟩))) rfl rfl ⟨(agLd rfl (clean_of (cleanP (cleanA ⟨(Enc.clean (f:=Str) _),(Enc.clean (f:=I) _),(Enc.clean (f:=B) _),trivial⟩))) rfl),trivial⟩ (resC (f:=(L 3 eSNode)) inferInstance resN) rfl rfl rfl rfl) ?_
 refine a_as ?_
 refine RW.ghost (Ghost.tr 7 106 _ rfl rfl (clean_of (cleanL (Enc.clean (f:=eSNode)))) rfl) ?_
 refine rN (CW.seq (CW.to [(0,T.ptr (eSl36Reader r22.2)),(7,L 3 eSNode r22.1)] ⟨rfl,rfl,trivial⟩ ?_))
 refine CW.region (a_mv ?_)
 obtain ⟨r23,hr23,h⟩:=bd h
 refine oP (x_callM (xs:=[.tmp 107,.const _]) 0 107 0 [] Tryz.call53 (t_ak.h _ _ _ hr23) rfl rfl rfl (clean_of (cleanP (cleanA ⟨(Enc.clean (f:=Str) _),(Enc.clean (f:=I) _),(Enc.clean (f:=B) _),trivial⟩))) (clean_of (cleanP (cleanA ⟨(Enc.clean (f:=Str) _),(Enc.clean (f:=I) _),(Enc.clean (f:=B) _),trivial⟩))) rfl rfl ⟨(agLd rfl (clean_of (cleanP (cleanA ⟨(Enc.clean (f:=Str) _),(Enc.clean (f:=I) _),(Enc.clean (f:=B) _),trivial⟩))) rfl),⟨(agM _ rfl rfl rfl),trivial⟩⟩ resN rfl rfl rfl rfl) ?_
 refine rN (sR (a_mv ?_))
 refine a_as ?_
 refine RW.ghost (Ghost.tr 2 7 _ rfl rfl (clean_of (cleanL (Enc.clean (f:=eSNode)))) rfl) ?_
 refine rN (CW.ret (rB ?_))
 refine rA ?_
 obtain rfl:=sI h
 exact rT
 refine sR (a_mv ?_)
 obtain ⟨r24,hr24,h⟩:=bd h
 refine cA Tryz.call39 (FnK.go (t_aI.h _) hr24) ?_
 refine a_as ?_
 refine rN (cn h (fun hc h => ?_) (fun hc h => ?_))
 refine sR (a_mv ?_)
 refine a_nilc ?_
 refine a_fa ?_
 refine a_ld ?_
 obtain ⟨v25,hv25,h⟩:=bd h
 refine oP (x_add hv25 rfl rfl rfl) ?_
 refine a_nilc ?_
 refine a_fa ?_
 refine oP (x_st inf_3 rfl rfl rfl rfl rfl rfl (clean_of (Enc.clean (f:=I) _)) rfl) ?_
 refine rN (CW.seq (CW.to [(0,T.ptr (T.agg [Str x0.text,I v25,B x0.failed])),(3,Str v2)] ⟨rfl,rfl,trivial⟩ ?_))
 refine CW.region (a_mv ?_)
 obtain ⟨r26,hr26,h⟩:=bd h
 refine oP (x_callM (xs:=[.tmp 120,.const _]) 0 120 0 [] Tryz.call53 (t_ak.h _ _ _ hr26) rfl rfl rfl (clean_of (cleanP (cleanA ⟨(Enc.clean (f:=Str) _),(Enc.clean (f:=I) _),(Enc.clean (f:=B) _),trivial⟩))) (clean_of (cleanP (cleanA ⟨(Enc.clean (f:=Str) _),(Enc.clean (f:=I) _),(Enc.clean (f:=B) _),trivial⟩))) rfl rfl ⟨(agLd rfl (clean_of (cleanP (cleanA ⟨(Enc.clean (f:=Str) _),(Enc.clean (f:=I) _),(Enc.clean (f:=B) _),trivial⟩))) rfl),⟨(agM _ rfl rfl rfl),trivial⟩⟩ resN rfl rfl rfl rfl) ?_
 refine rN (sR (a_mv ?_))
 obtain ⟨r27,hr27,h⟩:=bd h
 refine oP (x_callM (xs:=[.tmp 122]) 0 122 0 [] Tryz.call20 (H_i _ _ hr27) rfl rfl rfl (clean_of (cleanP (cleanA ⟨(Enc.clean (f:=Str) _),(Enc.clean (f:=I) _),(Enc.clean (f:=B) _),trivial⟩))) (clean_of (cleanP (cleanA ⟨(Enc.clean (f:=Str) _),(Enc.clean (f:=I) _),(Enc.clean (f:=B) _),trivial⟩))) rfl rfl ⟨(agLd rfl (clean_of (cleanP (cleanA ⟨(Enc.clean (f:=Str) _),(Enc.clean (f:=I) _),(Enc.clean (f:=B) _),trivial⟩))) rfl),trivial⟩ (resC (f:=(L 3 eSNode)) inferInstance resN) rfl rfl rfl rfl) ?_
 refine a_as ?_
 refine RW.ghost (Ghost.tr 8 123 _ rfl rfl (clean_of (cleanL (Enc.clean (f:=eSNode)))) rfl) ?_
 refine rN (sR (a_mv ?_))
 obtain ⟨r28,hr28,h⟩:=bd h
 refine oP (x_callM (xs:=[.tmp 124,.const _]) 0 124 0 [] Tryz.call53 (t_ak.h _ _ _ hr28) rfl rfl rfl (clean_of (cleanP (cleanA ⟨(Enc.clean (f:=Str) _),(Enc.clean (f:=I) _),(Enc.clean (f:=B) _),trivial⟩))) (clean_of (cleanP (cleanA ⟨(Enc.clean (f:=Str) _),(Enc.clean (f:=I) _),(Enc.clean (f:=B) _),trivial⟩))) rfl rfl ⟨(agLd rfl (clean_of (cleanP (cleanA ⟨(Enc.clean (f:=Str) _),(Enc.clean (f:=I) _),(Enc.clean (f:=B) _),trivial⟩))) rfl),⟨(agM _ rfl rfl rfl),trivial⟩⟩ resN rfl rfl rfl rfl) ?_
 refine rN (sR (a_mv ?_))
 refine oP (x_build bld_49 [(0,.const _),(2,.tmp 126)] [(0,.zero (I 5)),(2,.slot 126 (Str v2))] [.zero (I 5),.zero (Str ByteArray.empty),.slot 126 (Str v2)] (pkZ rfl (pkZ rfl (pkS rfl (clean_of (Enc.clean (f:=Str) _)) rfl pkN))) (bqC (.zero _ _ rfl) (bqC (.slot _ _) bqN)) rfl) ?_
 refine oP (x_bs elt_22 [.tmp 127] [.slot 127 (T.agg [I 5,Str ByteArray.empty,Str v2])] [(SNode.mk 5 ByteArray.empty v2)] eSNode ⟨.slot _ _,trivial⟩ (pkS rfl (clean_of (cleanA ⟨(Enc.clean (f:=I) _),(Enc.clean (f:=Str) _),(Enc.clean (f:=Str) _),trivial⟩)) rfl pkN) rfl rfl) ?_
 refine a_mv ?_
 obtain ⟨v29,hv29,h⟩:=bd h
 refine oP (x_appc (f:=eSNode) elt_22 (fun _ => rfl) hv29 rfl (locA rfl rfl rfl rfl) rfl) ?_
 refine a_as ?_
 refine RW.ghost (Ghost.tr 2 130 _ rfl rfl (clean_of (cleanL (Enc.clean (f:=eSNode)))) rfl) ?_
 refine rN (CW.ret (rB ?_))
 refine rA ?_
 obtain rfl:=sI h
 exact rT
 refine CW.skip (nB (nA (sR (a_mv ?_))))
 refine a_nilc ?_
 refine a_fa ?_
 refine oP (x_stcT (u:=B true) inf_4 rfl rfl rfl rfl rfl rfl rfl) ?_
 refine rN (sR (oP (x_nil 3 rfl) ?_))
 refine rN (CW.ret ?_)
 obtain rfl:=sI h
 exact rT
end Go.Wk
