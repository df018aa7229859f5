/- x -/
import Derived.Test.YtbemegmelmannaaGreatDoorVab
import Derived.Test.YtbemegmelmannaaGreatDoorVap
import Derived.Test.YtbemegmelmannaaGreatDoorVag
import Derived.Test.YtbemegmelmannaaGreatDoorVai
import Derived.Test.YtbemegmelmannaaGreatDoorVaj
import Derived.Test.YtbemegmelmannaaGreatDoorWT
namespace Go.Wk
open Go Go.Proofs Go.Ab
set_option maxRecDepth 100000
set_option maxHeartbeats 4000000
theorem u_m (x0:ByteArray) (r:SPr × Bool) (h:f_m x0 = some r):FnC Tryz.prog 66 [Str x0] [eSPr r.1,B r.2] []:=by
 refine fB Tryz.func66 (fun St W w0 v => ?_)
 refine sR (a_alloc ?_)
 refine a_as ?_
 refine rN (sR (a_mv ?_))
 obtain ⟨r1,hr1,h⟩:=bd h
 refine oP (x_callF (xs:=[.tmp 26,.const _]) Tryz.call86 (FnK.go (t_L.h _ _) hr1) (afC rfl rfl (afC rfl rfl afN)) rfl ⟨trivial,trivial⟩ rfl rfl) ?_
 refine a_as ?_
 refine rN (sR (oP (x_nil 1 rfl) ?_))
 refine rN (CW.seq (sR (a_mv ?_)))
 obtain ⟨v2,hv2,h⟩:=bd h
 refine oP (x_ixr (f:=Str) row_86 hv2 (locB rfl rfl) rfl rfl) ?_
 refine a_ldr ?_
 refine oP (x_sNe rfl rfl rfl) ?_
 refine rN (cn h (fun hc h => ?_) (fun hc h => ?_))
 refine sR (a_mv ?_)
 obtain ⟨v3,hv3,h⟩:=bd h
 refine oP (x_ixr (f:=Str) row_86 hv3 (locB rfl rfl) rfl rfl) ?_
 refine a_ldr ?_
 obtain ⟨r4,hr4,h⟩:=bd h
 refine oP (x_callF (xs:=[.tmp 34,.const _]) Tryz.call86 (FnK.go (t_L.h _ _) hr4) (afC rfl rfl (afC rfl rfl afN)) rfl ⟨trivial,trivial⟩ rfl rfl) ?_
 refine a_lenr ?_
 refine a_mv ?_
 refine rN (CW.block ?_)
 obtain ⟨r9,hr9,h⟩:=bd h
 refine CW.lp (s:=([],0)) (l1_m r4) (fun s1:(List Int) × Int => envL [(0,Str x0),(2,T.ptr (T.agg [L 1 I [],L 1 lV [],L 1 lM []])),(4,T.ro ((L 1 Str) r1)),(5,L 1 I s1.1),(35,T.ro ((L 1 Str) r4)),(36,I (r4.length:Int)),(37,I s1.2)]) (fun (x:(List Int) ⊕ (SPr × Bool)) e E => match x with | (.inl r9) => e = .exit 0 ∧ Ghost ⟨St,W,w0,Tryz.f66.ntmps⟩ E (envL [(0,Str x0),(2,T.ptr (T.agg [L 1 I [],L 1 lV [],L 1 lM []])),(4,T.ro ((L 1 Str) r1)),(5,L 1 I r9)]) | (.inr r9) => e = .ret ∧ RetG ⟨St,W,w0,Tryz.f66.ntmps⟩ Tryz.prog Tryz.f66.results [Str x0] [eSPr r9.1,B r9.2] [] .ret E) (.has ⟨rfl,rfl,rfl,rfl,rfl,rfl,rfl,trivial⟩) (fun s1 x h => ?_) hr9 (fun e E hq => ?_)
 refine sR (a_lss ?_)
 refine rN (CW.seq (cn h (fun hc h => ?_) (fun hc h => ?_)))
 refine CW.skip (nA (CW.seq (CW.block (sR ?_))))
 obtain ⟨v5,hv5,h⟩:=bd h
 refine a_ixr ?_
 refine a_ldr ?_
 refine a_as ?_
 refine rN (sR (a_mv ?_))
 obtain ⟨r6,hr6,h⟩:=bd h
 refine oP (x_callF (xs:=[.tmp 42,.const _,.const _]) Tryz.call87 (FnK.go (t_ad.h _ _ _) hr6) (afC rfl rfl (afC rfl rfl (afC rfl rfl afN))) rfl ⟨(Enc.clean (f:=I) _),trivial,trivial⟩ rfl rfl) ?_
 refine a_mvT ?_
 refine a_ext ?_
 refine a_ext ?_
 refine a_as ?_
 refine a_as ?_
 refine rN (CW.seq (sR (a_mv ?_)))
 refine oP (x_erN Tryz.underlying123 rfl rfl) ?_
 refine rN (cn h (fun hc h => ?_) (fun hc h => ?_))
 refine sR (oP (x_build bld_78 [] [] [.zero (L 1 I []),.zero (L 1 lV []),.zero (L 1 lM [])] (pkZ rfl (pkZ rfl (pkZ rfl pkN))) bqN rfl) ?_)
 refine oP (x_stp inf_78 rfl (locB rfl rfl) rfl rfl rfl rfl (clean_of (cleanA ⟨trivial,trivial,trivial,trivial⟩)) rfl) ?_
 refine a_as ?_
 refine rN (CW.ret (rA (rB ?_)))
 exact rA (eX h ⟨rfl,⟨_,Ghost.refl,⟨.inl rfl,[(2,[0],T.agg [L 1 I [],L 1 lV [],L 1 lM []]),(3,[],B false)],⟨⟨rfl,rfl,rfl,(var_78.h _ rfl rfl).h⟩,⟨rfl,rfl,rfl,rfl⟩,trivial⟩,rfl,(by simp),(by simp),trivial⟩⟩⟩)
 refine CW.skip (nA (CW.region (a_mv ?_)))
 refine a_mv ?_
 refine oP (x_bs elt_74 [.tmp 50] [.slot 50 (I r6.1)] [r6.1] I ⟨.slot _ _,trivial⟩ (pkS rfl (clean_of (Enc.clean (f:=I) _)) rfl pkN) rfl rfl) ?_
 refine RW.ghost (Ghost.tr 49 5 _ rfl rfl (clean_of (cleanL (Enc.clean (f:=I)))) rfl) ?_
 obtain ⟨v7,hv7,h⟩:=bd h
 refine oP (x_appc (f:=I) elt_74 (fun _ => rfl) hv7 rfl (locB rfl rfl) rfl) ?_
 refine a_as ?_
 refine RW.ghost (Ghost.tr 5 52 _ rfl rfl (clean_of (cleanL (Enc.clean (f:=I)))) rfl) ?_
 refine RW.nil ?_
 refine nB (nA (CW.region ?_))
 obtain ⟨v8,hv8,h⟩:=bd h
 refine a_add ?_
 refine a_mv ?_
 refine RW.nil ?_
 exact eN h
 refine CW.exit (xA ?_)
 exact eX h
 rcases r9 with r9 | r9
 obtain ⟨rfl,hg⟩:=hq
 refine xB ?_
 refine nA (CW.ghost hg ?_)
 refine sR (a_mv ?_)
 refine a_len ?_
 refine a_as ?_
 refine rN (CW.seq (sR (a_mv ?_)))
 refine a_gtr ?_
 refine rN (cn h (fun hc h => ?_) (fun hc h => ?_))
 refine sR (oP (x_build bld_78 [] [] [.zero (L 1 I []),.zero (L 1 lV []),.zero (L 1 lM [])] (pkZ rfl (pkZ rfl (pkZ rfl pkN))) bqN rfl) ?_)
 refine oP (x_stp inf_78 rfl (locB rfl rfl) rfl rfl rfl rfl (clean_of (cleanA ⟨trivial,trivial,trivial,trivial⟩)) rfl) ?_
 refine a_as ?_
 refine rN (CW.ret (rA ?_))
 obtain rfl:=sI h
 exact ⟨_,Ghost.refl,⟨.inl rfl,[(2,[0],T.agg [L 1 I [],L 1 lV [],L 1 lM []]),(3,[],B false)],⟨⟨rfl,rfl,rfl,(var_78.h _ rfl rfl).h⟩,⟨rfl,rfl,rfl,rfl⟩,trivial⟩,rfl,(by simp),(by simp),trivial⟩⟩
 refine CW.skip (nA (sR (a_mv ?_)))
 obtain ⟨r10,hr10,h⟩:=bd h
 refine cA Tryz.call88 (FnK.go (t_C.h _) hr10) ?_
 refine a_alloc ?_
 refine oP (x_stp inf_78 rfl (locB rfl rfl) rfl rfl rfl rfl (clean_of (cleanA ⟨(cleanL (Enc.clean (f:=I))),(cleanL (Enc.clean (f:=lV))),(cleanL (Enc.clean (f:=lM))),trivial⟩)) rfl) ?_
 refine rN (CW.seq (sR (a_mv ?_)))
 obtain ⟨v11,hv11,h⟩:=bd h
 refine oP (x_slr row_86 hv11 (locB rfl rfl) (optS (sliceO_lo hv11) rfl) optN rfl) ?_
 refine a_lenr ?_
 refine a_mv ?_
 refine rN (CW.block ?_)
 obtain ⟨r26,hr26,h⟩:=bd h
 refine CW.lp (s:=(r10.Powers,r10.Conjugates,0)) (l2_m r9 v11) (fun s3:(List (List Int)) × (List (List (List Int))) × Int => envL [(0,Str x0),(2,T.ptr (T.agg [L 1 I [],L 1 lV [],L 1 lM []])),(10,I (r9.length:Int)),(11,T.ptr (T.agg [L 1 I r10.Orders,L 1 lV s3.1,L 1 lM s3.2.1])),(62,T.ro ((L 1 Str) v11)),(63,I (v11.length:Int)),(64,I s3.2.2)]) (fun (x:((List (List Int)) × (List (List (List Int)))) ⊕ (SPr × Bool)) e E => match x with | (.inl r26) => e = .exit 2 ∧ Ghost ⟨St,W,w0,Tryz.f66.ntmps⟩ E (envL [(0,Str x0),(2,T.ptr (T.agg [L 1 I [],L 1 lV [],L 1 lM []])),(11,T.ptr (T.agg [L 1 I r10.Orders,L 1 lV r26.1,L 1 lM r26.2]))]) | (.inr r26) => e = .ret ∧ RetG ⟨St,W,w0,Tryz.f66.ntmps⟩ Tryz.prog Tryz.f66.results [Str x0] [eSPr r26.1,B r26.2] [] .ret E) (.has ⟨rfl,rfl,rfl,rfl,rfl,rfl,rfl,trivial⟩) (fun s3 x h => ?_) hr26 (fun e E hq => ?_)
 refine sR (a_lss ?_)
 refine rN (CW.seq (cn h (fun hc h => ?_) (fun hc h => ?_)))
 refine CW.skip (nA (CW.seq (CW.block (sR ?_))))
 obtain ⟨v12,hv12,h⟩:=bd h
 refine a_ixr ?_
 refine a_ldr ?_
 refine a_as ?_
 refine rN (sR (a_mv ?_))
 obtain ⟨r13,hr13,h⟩:=bd h
 refine cA Tryz.call89 (FnK.go (t_E.h _ _) hr13) ?_
 refine a_mvT ?_
 refine a_ext ?_
 refine a_ext ?_
 refine a_ext ?_
 refine a_as ?_
 refine a_as ?_
 refine a_as ?_
 refine rN (sR (a_mv ?_))
 obtain ⟨r14,hr14,h⟩:=bd h
 refine cA Tryz.call89 (FnK.go (t_E.h _ _) hr14) ?_
 refine a_mvT ?_
 refine a_ext ?_
 refine a_ext ?_
 refine a_ext ?_
 refine a_as ?_
 refine a_as ?_
 refine a_as ?_
 refine rN (sR (a_mv ?_))
 refine a_mv ?_
 obtain ⟨r15,hr15,h⟩:=bd h
 refine cA Tryz.call90 (FnK.go (t_J.h _ _) hr15) ?_
 refine a_mvT ?_
 refine a_ext ?_
 refine a_ext ?_
 refine a_as ?_
 refine a_as ?_
 refine RW.ghost (Ghost.trq 20 83 [0] rfl rfl rfl (clean_of (cleanL (Enc.clean (f:=I)))) rfl) ?_
 refine rN (CW.seq (CW.to [(0,Str x0),(2,T.ptr (T.agg [L 1 I [],L 1 lV [],L 1 lM []])),(10,I (r9.length:Int)),(11,T.ptr (T.agg [L 1 I r10.Orders,L 1 lV s3.1,L 1 lM s3.2.1])),(17,Str r14.1),(18,Str r14.2.1),(20,L 1 I r15.1),(21,B r15.2),(62,T.ro ((L 1 Str) v11)),(63,I (v11.length:Int)),(64,I s3.2.2)] ⟨rfl,rfl,rfl,rfl,rfl,rfl,rfl,rfl,rfl,rfl,rfl,trivial⟩ ?_))
 refine CW.region (a_mv ?_)
 refine a_mv ?_
 obtain ⟨r16,hr16,h⟩:=bd h
 refine cA Tryz.call91 (FnK.go (t_X.h _ _) hr16) ?_
 refine a_mvT ?_
 refine a_ext ?_
 refine a_ext ?_
 refine a_as ?_
 refine a_as ?_
 refine rN (CW.seq (sR (a_mv ?_)))
 refine a_not ?_
 refine a_mv ?_
 refine RW.cases 94 _ rfl (fun hc => ?_) (fun hc => ?_)
 have h:=cT hc h
 refine sk2 ?_
 refine sk2 ?_
 refine a_pick ?_
 refine rN (CW.condT rfl ?_)
 refine sR (oP (x_build bld_78 [] [] [.zero (L 1 I []),.zero (L 1 lV []),.zero (L 1 lM [])] (pkZ rfl (pkZ rfl (pkZ rfl pkN))) bqN rfl) ?_)
 refine oP (x_stp inf_78 rfl (locB rfl rfl) rfl rfl rfl rfl (clean_of (cleanA ⟨trivial,trivial,trivial,trivial⟩)) rfl) ?_
 refine a_as ?_
 refine rN (CW.ret (rA (rB ?_)))
 exact rA (eX h ⟨rfl,⟨_,Ghost.refl,⟨.inl rfl,[(2,[0],T.agg [L 1 I [],L 1 lV [],L 1 lM []]),(3,[],B false)],⟨⟨rfl,rfl,rfl,(var_78.h _ rfl rfl).h⟩,⟨rfl,rfl,rfl,rfl⟩,trivial⟩,rfl,(by simp),(by simp),trivial⟩⟩⟩)
 have h:=cF hc h
 refine g_mv ?_
 refine g_not ?_
 refine a_pick ?_
 refine rN (cn h (fun hc h => ?_) (fun hc h => ?_))
 refine sR (oP (x_build bld_78 [] [] [.zero (L 1 I []),.zero (L 1 lV []),.zero (L 1 lM [])] (pkZ rfl (pkZ rfl (pkZ rfl pkN))) bqN rfl) ?_)
 refine oP (x_stp inf_78 rfl (locB rfl rfl) rfl rfl rfl rfl (clean_of (cleanA ⟨trivial,trivial,trivial,trivial⟩)) rfl) ?_
 refine a_as ?_
 refine rN (CW.ret (rA (rB ?_)))
 exact rA (eX h ⟨rfl,⟨_,Ghost.refl,⟨.inl rfl,[(2,[0],T.agg [L 1 I [],L 1 lV [],L 1 lM []]),(3,[],B false)],⟨⟨rfl,rfl,rfl,(var_78.h _ rfl rfl).h⟩,⟨rfl,rfl,rfl,rfl⟩,trivial⟩,rfl,(by simp),(by simp),trivial⟩⟩⟩)
 refine CW.skip (nA (sR (a_mv ?_)))
 refine a_mv ?_
 obtain ⟨r17,hr17,h⟩:=bd h
 refine cA Tryz.call91 (FnK.go (t_X.h _ _) hr17) ?_
 refine a_mvT ?_
 refine a_ext ?_
 refine a_ext ?_
 refine a_as ?_
 refine a_as ?_
 refine rN (sR (a_mv ?_))
 refine a_not ?_
 refine rN (cn h (fun hc h => ?_) (fun hc h => ?_))
 refine CW.to [(0,Str x0),(2,T.ptr (T.agg [L 1 I [],L 1 lV [],L 1 lM []])),(10,I (r9.length:Int)),(11,T.ptr (T.agg [L 1 I r10.Orders,L 1 lV s3.1,L 1 lM s3.2.1])),(20,L 1 I r15.1),(22,I r16.1),(62,T.ro ((L 1 Str) v11)),(63,I (v11.length:Int)),(64,I s3.2.2)] ⟨rfl,rfl,rfl,rfl,rfl,rfl,rfl,rfl,rfl,trivial⟩ ?_
 refine CW.region (a_fa ?_)
 refine a_ld ?_
 refine a_mv ?_
 refine a_mv ?_
 obtain ⟨v18,hv18,h⟩:=bd h
 refine a_ix ?_
 refine RW.ghost (Ghost.tr 110 20 _ rfl rfl (clean_of (cleanL (Enc.clean (f:=I)))) rfl) ?_
 refine oP (x_st inf_74 rfl rfl rfl (getp (geta rfl (getc hv18 rfl))) (setp (seta rfl (setc hv18 rfl))) rfl (clean_of (cleanL (Enc.clean (f:=I)))) rfl) ?_
 refine RW.nil ?_
 refine nB (nA (CW.region ?_))
 obtain ⟨v19,hv19,h⟩:=bd h
 refine a_add ?_
 refine a_mv ?_
 refine RW.nil ?_
 exact eN h
 refine CW.seq (CW.to [(0,Str x0),(2,T.ptr (T.agg [L 1 I [],L 1 lV [],L 1 lM []])),(10,I (r9.length:Int)),(11,T.ptr (T.agg [L 1 I r10.Orders,L 1 lV s3.1,L 1 lM s3.2.1])),(20,L 1 I r15.1),(22,I r16.1),(24,I r17.1),(62,T.ro ((L 1 Str) v11)),(63,I (v11.length:Int)),(64,I s3.2.2)] ⟨rfl,rfl,rfl,rfl,rfl,rfl,rfl,rfl,rfl,rfl,trivial⟩ ?_)
 refine CW.region (a_mv ?_)
 refine a_mv ?_
 refine a_lss ?_
 refine rN (cn h (fun hc h => ?_) (fun hc h => ?_))
 refine CW.region (a_fa ?_)
 refine a_ld ?_
 refine a_mv ?_
 obtain ⟨v20,hv20,h⟩:=bd h
 refine a_ix ?_
 refine a_ld ?_
 refine a_mv ?_
 refine a_mv ?_
 obtain ⟨v21,hv21,h⟩:=bd h
 refine a_sub ?_
 obtain ⟨v22,hv22,h⟩:=bd h
 refine a_sub ?_
 refine a_mv ?_
 obtain ⟨v23,hv23,h⟩:=bd h
 refine a_ix ?_
 refine RW.ghost (Ghost.tr 124 20 _ rfl rfl (clean_of (cleanL (Enc.clean (f:=I)))) rfl) ?_
 refine oP (x_st inf_74 rfl rfl rfl (getp (geta rfl (getc hv20 (getc hv23 rfl)))) (setp (seta rfl (setc hv20 (setc hv23 rfl)))) rfl (clean_of (cleanL (Enc.clean (f:=I)))) rfl) ?_
 refine RW.nil ?_
 refine nB (nA (CW.region ?_))
 obtain ⟨v24,hv24,h⟩:=bd h
 refine a_add ?_
 refine a_mv ?_
 refine RW.nil ?_
 exact eN h
 refine CW.skip (nB (nA (CW.region ?_)))
 obtain ⟨v25,hv25,h⟩:=bd h
 refine a_add ?_
 refine a_mv ?_
 refine RW.nil ?_
 exact eN h
 refine CW.exit (xA ?_)
 exact eX h
 rcases r26 with r26 | r26
 obtain ⟨rfl,hg⟩:=hq
 refine xB ?_
 refine nA (CW.ghost hg ?_)
 refine CW.seq (sR (a_ldp ?_))
 obtain ⟨r27,hr27,h⟩:=bd h
 refine oP (x_call (xs:=[.tmp 127]) Tryz.call92 (FnK.go (t_s.h _) hr27) ⟨(agC _ rfl (cloA (cloC (cloS rfl rfl inferInstance) (cloC (cloS rfl rfl inferInstance) (cloC (cloS rfl rfl inferInstance) cloN)))) rfl),trivial⟩ (resC (f:=B) inferInstance resN) rfl) ?_
 refine a_not ?_
 refine a_mv ?_
 refine RW.cases 130 _ rfl (fun hc => ?_) (fun hc => ?_)
 have h:=cT hc h
 refine sk2 ?_
 refine sk2 ?_
 refine sk2 ?_
 refine a_pick ?_
 refine rN (CW.condT rfl ?_)
 refine sR (oP (x_build bld_78 [] [] [.zero (L 1 I []),.zero (L 1 lV []),.zero (L 1 lM [])] (pkZ rfl (pkZ rfl (pkZ rfl pkN))) bqN rfl) ?_)
 refine oP (x_stp inf_78 rfl (locB rfl rfl) rfl rfl rfl rfl (clean_of (cleanA ⟨trivial,trivial,trivial,trivial⟩)) rfl) ?_
 refine a_as ?_
 refine rN (CW.ret (rA ?_))
 obtain rfl:=sI h
 exact ⟨_,Ghost.refl,⟨.inl rfl,[(2,[0],T.agg [L 1 I [],L 1 lV [],L 1 lM []]),(3,[],B false)],⟨⟨rfl,rfl,rfl,(var_78.h _ rfl rfl).h⟩,⟨rfl,rfl,rfl,rfl⟩,trivial⟩,rfl,(by simp),(by simp),trivial⟩⟩
 have h:=cF hc h
 obtain ⟨r28,hr28,h⟩:=bd h
 refine RW.cons (IxOk.guard 3 false 130 (x_call (xs:=[.tmp 11]) Tryz.call93 (FnK.go (t_g.h _) hr28) ⟨(agC _ rfl (cloP (stA (stC (StripTo.h (f:=L 1 I) _) (stC (StripTo.h (f:=L 1 lV) _) (stC (StripTo.h (f:=L 1 lM) _) rfl))))) rfl),trivial⟩ (resC (f:=Str) inferInstance resN) rfl)) ?_
 refine g_mv ?_
 refine RW.cons (IxOk.guard 3 false 130 (x_sNe rfl rfl rfl)) ?_
 refine a_pick ?_
 refine rN (cn h (fun hc h => ?_) (fun hc h => ?_))
 refine sR (oP (x_build bld_78 [] [] [.zero (L 1 I []),.zero (L 1 lV []),.zero (L 1 lM [])] (pkZ rfl (pkZ rfl (pkZ rfl pkN))) bqN rfl) ?_)
 refine oP (x_stp inf_78 rfl (locB rfl rfl) rfl rfl rfl rfl (clean_of (cleanA ⟨trivial,trivial,trivial,trivial⟩)) rfl) ?_
 refine a_as ?_
 refine rN (CW.ret (rA ?_))
 obtain rfl:=sI h
 exact ⟨_,Ghost.refl,⟨.inl rfl,[(2,[0],T.agg [L 1 I [],L 1 lV [],L 1 lM []]),(3,[],B false)],⟨⟨rfl,rfl,rfl,(var_78.h _ rfl rfl).h⟩,⟨rfl,rfl,rfl,rfl⟩,trivial⟩,rfl,(by simp),(by simp),trivial⟩⟩
 refine CW.skip (nA (sR (a_ldp ?_)))
 refine RW.ghost (Ghost.trf 136 [0] 11 [0,0] _ _ rfl rfl rfl rfl rfl (clean_of (cleanL (Enc.clean (f:=I)))) rfl) ?_
 refine RW.ghost (Ghost.trf 136 [1] 11 [1,0] _ _ rfl rfl rfl rfl rfl (clean_of (cleanL (Enc.clean (f:=lV)))) rfl) ?_
 refine RW.ghost (Ghost.trf 136 [2] 11 [2,0] _ _ rfl rfl rfl rfl rfl (clean_of (cleanL (Enc.clean (f:=lM)))) rfl) ?_
 refine oP (x_stp inf_78 rfl (locB rfl rfl) rfl rfl rfl rfl (clean_of (cleanA ⟨(cleanL (Enc.clean (f:=I))),(cleanL (Enc.clean (f:=lV))),(cleanL (Enc.clean (f:=lM))),trivial⟩)) rfl) ?_
 refine a_as ?_
 refine rN (CW.ret ?_)
 obtain rfl:=sI h
 exact ⟨_,Ghost.refl,⟨.inl rfl,[(2,[0],T.agg [L 1 I r10.Orders,L 1 lV r26.1,L 1 lM r26.2]),(3,[],B true)],⟨⟨rfl,rfl,rfl,(var_78.h _ rfl rfl).h⟩,⟨rfl,rfl,rfl,rfl⟩,trivial⟩,rfl,(by simp),(by simp),trivial⟩⟩
 obtain ⟨rfl,hq⟩:=hq
 refine rB ?_
 refine rA ?_
 obtain rfl:=sI h
 exact hq
 obtain ⟨rfl,hq⟩:=hq
 refine rB ?_
 refine rA ?_
 obtain rfl:=sI h
 exact hq
 refine CW.skip (nA (sR (a_mv ?_)))
 refine oP (y_len (f:=I) (xs:=[]) (locA rfl rfl (by rfl) (by rfl)) rfl) ?_
 refine a_as ?_
 refine rN (CW.seq (sR (a_mv ?_)))
 refine a_gtr ?_
 refine rN (cn h (fun hc h => ?_) (fun hc h => ?_))
 refine sR (oP (x_build bld_78 [] [] [.zero (L 1 I []),.zero (L 1 lV []),.zero (L 1 lM [])] (pkZ rfl (pkZ rfl (pkZ rfl pkN))) bqN rfl) ?_)
 refine oP (x_stp inf_78 rfl (locB rfl rfl) rfl rfl rfl rfl (clean_of (cleanA ⟨trivial,trivial,trivial,trivial⟩)) rfl) ?_
 refine a_as ?_
 refine rN (CW.ret (rA ?_))
 obtain rfl:=sI h
 exact ⟨_,Ghost.refl,⟨.inl rfl,[(2,[0],T.agg [L 1 I [],L 1 lV [],L 1 lM []]),(3,[],B false)],⟨⟨rfl,rfl,rfl,(var_78.h _ rfl rfl).h⟩,⟨rfl,rfl,rfl,rfl⟩,trivial⟩,rfl,(by simp),(by simp),trivial⟩⟩
 refine CW.skip (nA (sR (a_mv ?_)))
 obtain ⟨r29,hr29,h⟩:=bd h
 refine cA Tryz.call88 (FnK.go (t_C.h _) hr29) ?_
 refine a_alloc ?_
 refine oP (x_stp inf_78 rfl (locB rfl rfl) rfl rfl rfl rfl (clean_of (cleanA ⟨(cleanL (Enc.clean (f:=I))),(cleanL (Enc.clean (f:=lV))),(cleanL (Enc.clean (f:=lM))),trivial⟩)) rfl) ?_
 refine rN (CW.seq (sR (a_mv ?_)))
 obtain ⟨v30,hv30,h⟩:=bd h
 refine oP (x_slr row_86 hv30 (locB rfl rfl) (optS (sliceO_lo hv30) rfl) optN rfl) ?_
 refine a_lenr ?_
 refine a_mv ?_
 refine rN (CW.block ?_)
 obtain ⟨r45,hr45,h⟩:=bd h
 refine CW.lp (s:=(r29.Powers,r29.Conjugates,0)) (l3_m v30) (fun s5:(List (List Int)) × (List (List (List Int))) × Int => envL [(0,Str x0),(2,T.ptr (T.agg [L 1 I [],L 1 lV [],L 1 lM []])),(10,I (([]:List Int).length:Int)),(11,T.ptr (T.agg [L 1 I r29.Orders,L 1 lV s5.1,L 1 lM s5.2.1])),(62,T.ro ((L 1 Str) v30)),(63,I (v30.length:Int)),(64,I s5.2.2)]) (fun (x:((List (List Int)) × (List (List (List Int)))) ⊕ (SPr × Bool)) e E => match x with | (.inl r45) => e = .exit 2 ∧ Ghost ⟨St,W,w0,Tryz.f66.ntmps⟩ E (envL [(0,Str x0),(2,T.ptr (T.agg [L 1 I [],L 1 lV [],L 1 lM []])),(11,T.ptr (T.agg [L 1 I r29.Orders,L 1 lV r45.1,L 1 lM r45.2]))]) | (.inr r45) => e = .ret ∧ RetG ⟨St,W,w0,Tryz.f66.ntmps⟩ Tryz.prog Tryz.f66.results [Str x0] [eSPr r45.1,B r45.2] [] .ret E) (.has ⟨rfl,rfl,rfl,rfl,rfl,rfl,rfl,trivial⟩) (fun s5 x h => ?_) hr45 (fun e E hq => ?_)
 refine sR (a_lss ?_)
 refine rN (CW.seq (cn h (fun hc h => ?_) (fun hc h => ?_)))
 refine CW.skip (nA (CW.seq (CW.block (sR ?_))))
 obtain ⟨v31,hv31,h⟩:=bd h
 refine a_ixr ?_
 refine a_ldr ?_
 refine a_as ?_
 refine rN (sR (a_mv ?_))
 obtain ⟨r32,hr32,h⟩:=bd h
 refine cA Tryz.call89 (FnK.go (t_E.h _ _) hr32) ?_
 refine a_mvT ?_
 refine a_ext ?_
 refine a_ext ?_
 refine a_ext ?_
 refine a_as ?_
 refine a_as ?_
 refine a_as ?_
 refine rN (sR (a_mv ?_))
 obtain ⟨r33,hr33,h⟩:=bd h
 refine cA Tryz.call89 (FnK.go (t_E.h _ _) hr33) ?_
 refine a_mvT ?_
 refine a_ext ?_
 refine a_ext ?_
 refine a_ext ?_
 refine a_as ?_
 refine a_as ?_
 refine a_as ?_
 refine rN (sR (a_mv ?_))
 refine a_mv ?_
 obtain ⟨r34,hr34,h⟩:=bd h
 refine cA Tryz.call90 (FnK.go (t_J.h _ _) hr34) ?_
 refine a_mvT ?_
 refine a_ext ?_
 refine a_ext ?_
 refine a_as ?_
 refine a_as ?_
 refine RW.ghost (Ghost.trq 20 83 [0] rfl rfl rfl (clean_of (cleanL (Enc.clean (f:=I)))) rfl) ?_
 refine rN (CW.seq (CW.to [(0,Str x0),(2,T.ptr (T.agg [L 1 I [],L 1 lV [],L 1 lM []])),(10,I (([]:List Int).length:Int)),(11,T.ptr (T.agg [L 1 I r29.Orders,L 1 lV s5.1,L 1 lM s5.2.1])),(17,Str r33.1),(18,Str r33.2.1),(20,L 1 I r34.1),(21,B r34.2),(62,T.ro ((L 1 Str) v30)),(63,I (v30.length:Int)),(64,I s5.2.2)] ⟨rfl,rfl,rfl,rfl,rfl,rfl,rfl,rfl,rfl,rfl,rfl,trivial⟩ ?_))
 refine CW.region (a_mv ?_)
 refine a_mv ?_
 obtain ⟨r35,hr35,h⟩:=bd h
 refine cA Tryz.call91 (FnK.go (t_X.h _ _) hr35) ?_
 refine a_mvT ?_
 refine a_ext ?_
 refine a_ext ?_
 refine a_as ?_
 refine a_as ?_
 refine rN (CW.seq (sR (a_mv ?_)))
 refine a_not ?_
 refine a_mv ?_
 refine RW.cases 94 _ rfl (fun hc => ?_) (fun hc => ?_)
 have h:=cT hc h
 refine sk2 ?_
 refine sk2 ?_
 refine a_pick ?_
 refine rN (CW.condT rfl ?_)
 refine sR (oP (x_build bld_78 [] [] [.zero (L 1 I []),.zero (L 1 lV []),.zero (L 1 lM [])] (pkZ rfl (pkZ rfl (pkZ rfl pkN))) bqN rfl) ?_)
 refine oP (x_stp inf_78 rfl (locB rfl rfl) rfl rfl rfl rfl (clean_of (cleanA ⟨trivial,trivial,trivial,trivial⟩)) rfl) ?_
 refine a_as ?_
 refine rN (CW.ret (rA (rB ?_)))
 exact rA (eX h ⟨rfl,⟨_,Ghost.refl,⟨.inl rfl,[(2,[0],T.agg [L 1 I [],L 1 lV [],L 1 lM []]),(3,[],B false)],⟨⟨rfl,rfl,rfl,(var_78.h _ rfl rfl).h⟩,⟨rfl,rfl,rfl,rfl⟩,trivial⟩,rfl,(by simp),(by simp),trivial⟩⟩⟩)
 have h:=cF hc h
 refine g_mv ?_
 refine g_not ?_
 refine a_pick ?_
 refine rN (cn h (fun hc h => ?_) (fun hc h => ?_))
 refine sR (oP (x_build bld_78 [] [] [.zero (L 1 I []),.zero (L 1 lV []),.zero (L 1 lM [])] (pkZ rfl (pkZ rfl (pkZ rfl pkN))) bqN rfl) ?_)
 refine oP (x_stp inf_78 rfl (locB rfl rfl) rfl rfl rfl rfl (clean_of (cleanA ⟨trivial,trivial,trivial,trivial⟩)) rfl) ?_
 refine a_as ?_
 refine rN (CW.ret (rA (rB ?_)))
 exact rA (eX h ⟨rfl,⟨_,Ghost.refl,⟨.inl rfl,[(2,[0],T.agg [L 1 I [],L 1 lV [],L 1 lM []]),(3,[],B false)],⟨⟨rfl,rfl,rfl,(var_78.h _ rfl rfl).h⟩,⟨rfl,rfl,rfl,rfl⟩,trivial⟩,rfl,(by simp),(by simp),trivial⟩⟩⟩)
 refine CW.skip (nA (sR (a_mv ?_)))
 refine a_mv ?_
 obtain ⟨r36,hr36,h⟩:=bd h
 refine cA Tryz.call91 (FnK.go (t_X.h _ _) hr36) ?_
 refine a_mvT ?_
 refine a_ext ?_
 refine a_ext ?_
 refine a_as ?_
 refine a_as ?_
 refine rN (sR (a_mv ?_))
 refine a_not ?_
 refine rN (cn h (fun hc h => ?_) (fun hc h => ?_))
 refine CW.to [(0,Str x0),(2,T.ptr (T.agg [L 1 I [],L 1 lV [],L 1 lM []])),(10,I (([]:List Int).length:Int)),(11,T.ptr (T.agg [L 1 I r29.Orders,L 1 lV s5.1,L 1 lM s5.2.1])),(20,L 1 I r34.1),(22,I r35.1),(62,T.ro ((L 1 Str) v30)),(63,I (v30.length:Int)),(64,I s5.2.2)] ⟨rfl,rfl,rfl,rfl,rfl,rfl,rfl,rfl,rfl,trivial⟩ ?_
 refine CW.region (a_fa ?_)
 refine a_ld ?_
 refine a_mv ?_
 refine a_mv ?_
 obtain ⟨v37,hv37,h⟩:=bd h
 refine a_ix ?_
 refine RW.ghost (Ghost.tr 110 20 _ rfl rfl (clean_of (cleanL (Enc.clean (f:=I)))) rfl) ?_
 refine oP (x_st inf_74 rfl rfl rfl (getp (geta rfl (getc hv37 rfl))) (setp (seta rfl (setc hv37 rfl))) rfl (clean_of (cleanL (Enc.clean (f:=I)))) rfl) ?_
 refine RW.nil ?_
 refine nB (nA (CW.region ?_))
 obtain ⟨v38,hv38,h⟩:=bd h
 refine a_add ?_
 refine a_mv ?_
 refine RW.nil ?_
 exact eN h
 refine CW.seq (CW.to [(0,Str x0),(2,T.ptr (T.agg [L 1 I [],L 1 lV [],L 1 lM []])),(10,I (([]:List Int).length:Int)),(11,T.ptr (T.agg [L 1 I r29.Orders,L 1 lV s5.1,L 1 lM s5.2.1])),(20,L 1 I r34.1),(22,I r35.1),(24,I r36.1),(62,T.ro ((L 1 Str) v30)),(63,I (v30.length:Int)),(64,I s5.2.2)] ⟨rfl,rfl,rfl,rfl,rfl,rfl,rfl,rfl,rfl,rfl,trivial⟩ ?_)
 refine CW.region (a_mv ?_)
 refine a_mv ?_
 refine a_lss ?_
 refine rN (cn h (fun hc h => ?_) (fun hc h => ?_))
 refine CW.region (a_fa ?_)
 refine a_ld ?_
 refine a_mv ?_
 obtain ⟨v39,hv39,h⟩:=bd h
 refine a_ix ?_
 refine a_ld ?_
 refine a_mv ?_
 refine a_mv ?_
 obtain ⟨v40,hv40,h⟩:=bd h
 refine a_sub ?_
 obtain ⟨v41,hv41,h⟩:=bd h
 refine a_sub ?_
 refine a_mv ?_
 obtain ⟨v42,hv42,h⟩:=bd h
 refine a_ix ?_
 refine RW.ghost (Ghost.tr 124 20 _ rfl rfl (clean_of (cleanL (Enc.clean (f:=I)))) rfl) ?_
 refine oP (x_st inf_74 rfl rfl rfl (getp (geta rfl (getc hv39 (getc hv42 rfl)))) (setp (seta rfl (setc hv39 (setc hv42 rfl)))) rfl (clean_of (cleanL (Enc.clean (f:=I)))) rfl) ?_
 refine RW.nil ?_
 refine nB (nA (CW.region ?_))
 obtain ⟨v43,hv43,h⟩:=bd h
 refine a_add ?_
 refine a_mv ?_
 refine RW.nil ?_
 exact eN h
 refine CW.skip (nB (nA (CW.region ?_)))
 obtain ⟨v44,hv44,h⟩:=bd h
 refine a_add ?_
 refine a_mv ?_
 refine RW.nil ?_
 exact eN h
 refine CW.exit (xA ?_)
 exact eX h
 rcases r45 with r45 | r45
 obtain ⟨rfl,hg⟩:=hq
 refine xB ?_
 refine nA (CW.ghost hg ?_)
 refine CW.seq (sR (a_ldp ?_))
 obtain ⟨r46,hr46,h⟩:=bd h
 refine oP (x_call (xs:=[.tmp 127]) Tryz.call92 (FnK.go (t_s.h _) hr46) ⟨(agC _ rfl (cloA (cloC (cloS rfl rfl inferInstance) (cloC (cloS rfl rfl inferInstance) (cloC (cloS rfl rfl inferInstance) cloN)))) rfl),trivial⟩ (resC (f:=B) inferInstance resN) rfl) ?_
 refine a_not ?_
 refine a_mv ?_
 refine RW.cases 130 _ rfl (fun hc => ?_) (fun hc => ?_)
 have h:=cT hc h
 refine sk2 ?_
 refine sk2 ?_
 refine sk2 ?_
 refine a_pick ?_
 refine rN (CW.condT rfl ?_)
 refine sR (oP (x_build bld_78 [] [] [.zero (L 1 I []),.zero (L 1 lV []),.zero (L 1 lM [])] (pkZ rfl (pkZ rfl (pkZ rfl pkN))) bqN rfl) ?_)
 refine oP (x_stp inf_78 rfl (locB rfl rfl) rfl rfl rfl rfl (clean_of (cleanA ⟨trivial,trivial,trivial,trivial⟩)) rfl) ?_
 refine a_as ?_
 refine rN (CW.ret (rA ?_))
 obtain rfl:=sI h
 exact ⟨_,Ghost.refl,⟨.inl rfl,[(2,[0],T.agg [L 1 I [],L 1 lV [],L 1 lM []]),(3,[],B false)],⟨⟨rfl,rfl,rfl,(var_78.h _ rfl rfl).h⟩,⟨rfl,rfl,rfl,rfl⟩,trivial⟩,rfl,(by simp),(by simp),trivial⟩⟩
 have h:=cF hc h
 obtain ⟨r47,hr47,h⟩:=bd h
 refine RW.cons (IxOk.guard 3 false 130 (x_call (xs:=[.tmp 11]) Tryz.call93 (FnK.go (t_g.h _) hr47) ⟨(agC _ rfl (cloP (stA (stC (StripTo.h (f:=L 1 I) _) (stC (StripTo.h (f:=L 1 lV) _) (stC (StripTo.h (f:=L 1 lM) _) rfl))))) rfl),trivial⟩ (resC (f:=Str) inferInstance resN) rfl)) ?_
 refine g_mv ?_
 refine RW.cons (IxOk.guard 3 false 130 (x_sNe rfl rfl rfl)) ?_
 refine a_pick ?_
 refine rN (cn h (fun hc h => ?_) (fun hc h => ?_))
 refine sR (oP (x_build bld_78 [] [] [.zero (L 1 I []),.zero (L 1 lV []),.zero (L 1 lM [])] (pkZ rfl (pkZ rfl (pkZ rfl pkN))) bqN rfl) ?_)
 refine oP (x_stp inf_78 rfl (locB rfl rfl) rfl rfl rfl rfl (clean_of (cleanA ⟨trivial,trivial,trivial,trivial⟩)) rfl) ?_
 refine a_as ?_
 refine rN (CW.ret (rA ?_))
 obtain rfl:=sI h
 exact ⟨_,Ghost.refl,⟨.inl rfl,[(2,[0],T.agg [L 1 I [],L 1 lV [],L 1 lM []]),(3,[],B false)],⟨⟨rfl,rfl,rfl,(var_78.h _ rfl rfl).h⟩,⟨rfl,rfl,rfl,rfl⟩,trivial⟩,rfl,(by simp),(by simp),trivial⟩⟩
 refine CW.skip (nA (sR (a_ldp ?_)))
 refine RW.ghost (Ghost.trf 136 [0] 11 [0,0] _ _ rfl rfl rfl rfl rfl (clean_of (cleanL (Enc.clean (f:=I)))) rfl) ?_
 refine RW.ghost (Ghost.trf 136 [1] 11 [1,0] _ _ rfl rfl rfl rfl rfl (clean_of (cleanL (Enc.clean (f:=lV)))) rfl) ?_
 refine RW.ghost (Ghost.trf 136 [2] 11 [2,0] _ _ rfl rfl rfl rfl rfl (clean_of (cleanL (Enc.clean (f:=lM)))) rfl) ?_
 refine oP (x_stp inf_78 rfl (locB rfl rfl) rfl rfl rfl rfl (clean_of (cleanA ⟨(cleanL (Enc.clean (f:=I))),(cleanL (Enc.clean (f:=lV))),(cleanL (Enc.clean (f:=lM))),trivial⟩)) rfl) ?_
 refine a_as ?_
 refine rN (CW.ret ?_)
 obtain rfl:=sI h
 exact ⟨_,Ghost.refl,⟨.inl rfl,[(2,[0],T.agg [L 1 I r29.Orders,L 1 lV r45.1,L 1 lM r45.2]),(3,[],B true)],⟨⟨rfl,rfl,rfl,(var_78.h _ rfl rfl).h⟩,⟨rfl,rfl,rfl,rfl⟩,trivial⟩,rfl,(by simp),(by simp),trivial⟩⟩
 obtain ⟨rfl,hq⟩:=hq
 refine rB ?_
 refine rA ?_
 obtain rfl:=sI h
 exact hq
instance t_m:FI Tryz.prog 66 (∀ (x0:ByteArray),FnK Tryz.prog 66 [Str x0] (fun r:SPr × Bool => [eSPr r.1,B r.2]) (fun _ => []) (f_m x0)):=⟨Tryz.call66,fun x0 => FnK.mk (u_m x0)⟩
end Go.Wk
