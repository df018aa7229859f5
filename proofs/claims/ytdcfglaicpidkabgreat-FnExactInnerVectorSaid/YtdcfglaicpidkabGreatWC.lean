/- The program and the reference return the same vectors of inner derivations, for all arguments (FnExactInnerVector). This file is a part of the proof. -/
import Derived.Test.YtdcfglaicpidkabGreatWB
namespace Go.Wk
open Go Go.Proofs Go.Ab
set_option maxRecDepth 100000
theorem t_spec_l22Flat (x0:List (List Int)) (r:(List Int)) (h:f_spec_l22Flat x0 = some r):FnC Tryz.prog 63 [T.ro (lM x0)] [lV r] []:=by
 refine fB Tryz.func63 (fun St W w0 v => ?_)
 refine sR ?_
 refine oP (x_nil 1 rfl) ?_
 refine rN ?_
 refine sR ?_
 refine oP (x_bs0 elt_22 rfl) ?_
 refine a_as ?_
 refine RW.ghost (Ghost.tr 3 5 _ rfl rfl (clean_of trivial) rfl) ?_
 refine rN ?_
 refine CW.seq ?_
 refine sR ?_
 refine a_as ?_
 refine rN ?_
 refine CW.block ?_
 obtain ⟨r4,hr4,h⟩:=bd h
 refine CW.lp (s:=([],0)) (l1_spec_l22Flat x0) (fun s1:(List Int) × Int => envL [(0,T.ro (lM x0)),(3,L 1 I s1.1),(4,I s1.2)]) (fun (r4:(List Int)) e E => e = .exit 0 ∧ Ghost ⟨St,W,w0,Tryz.f63.ntmps⟩ E (envL [(3,L 1 I r4)])) (.has ⟨rfl,rfl,rfl,trivial⟩) (fun s1 x h => ?_) hr4 (fun e E hq => ?_)
 refine CW.seq ?_
 refine sR ?_
 refine a_mv ?_
 refine a_mv ?_
 refine a_lenr ?_
 refine a_lss ?_
 refine rN ?_
 refine cn h (fun hc h => ?_) (fun hc h => ?_)
 refine CW.skip ?_
 refine nA ?_
 refine CW.seq ?_
 refine CW.block ?_
 refine CW.region ?_
 refine a_mv ?_
 refine a_mv ?_
 refine a_mv ?_
 obtain ⟨v1,hv1,h⟩:=bd h
 refine a_ixr ?_
 refine a_ldr ?_
 refine RW.ghost (Ghost.tr 12 3 _ rfl rfl (clean_of (cleanL (Enc.clean (f:=I)))) rfl) ?_
 obtain ⟨v2,hv2,h⟩:=bd h
 refine oP (x_appr (f:=I) (g:=I) elt_22 (fun _ => rfl) (fun _ => rfl) inferInstance hv2 rfl (locB rfl rfl) rfl) ?_
 refine a_as ?_
 refine RW.ghost (Ghost.tr 3 17 _ rfl rfl (clean_of (cleanL (Enc.clean (f:=I)))) rfl) ?_
 refine RW.nil ?_
 refine nB ?_
 refine nA ?_
 refine CW.region ?_
 refine a_mv ?_
 obtain ⟨v3,hv3,h⟩:=bd h
 refine a_add ?_
 refine a_as ?_
 refine RW.nil ?_
 exact eN h
 refine CW.exit ?_
 refine xA ?_
 exact eX h
 obtain ⟨rfl,hg⟩:=hq
 refine xB ?_
 refine nA ?_
 refine CW.ghost hg ?_
 refine sR ?_
 refine a_mv ?_
 refine a_as ?_
 refine RW.ghost (Ghost.tr 2 3 _ rfl rfl (clean_of (cleanL (Enc.clean (f:=I)))) rfl) ?_
 refine rN ?_
 refine CW.ret ?_
 obtain rfl:=sI h
 exact rT
theorem t_spec_l22Units (x0:SModule) (r:(List (List Int))) (h:f_spec_l22Units x0 = some r):FnC Tryz.prog 62 [qModule x0] [lM r] []:=by
 refine fB Tryz.func62 (fun St W w0 v => ?_)
 refine sR ?_
 refine a_box ?_
 refine oP (x_nil 1 rfl) ?_
 refine rN ?_
 refine sR ?_
 refine oP (x_bs0 elt_23 rfl) ?_
 refine a_as ?_
 refine RW.ghost (Ghost.tr 3 6 _ rfl rfl (clean_of trivial) rfl) ?_
 refine rN ?_
 refine sR ?_
 refine a_fa ?_
 refine a_ld ?_
 obtain ⟨r1,hr1,h⟩:=bd h
 refine cA Tryz.call100 (t_spec_l02Unit _ _ hr1) ?_
 refine a_as ?_
 refine RW.ghost (Ghost.tr 4 9 _ rfl rfl (clean_of (cleanL (Enc.clean (f:=lV)))) rfl) ?_
 refine rN ?_
 refine CW.seq ?_
 refine sR ?_
 refine a_as ?_
 refine rN ?_
 refine CW.block ?_
 obtain ⟨r7,hr7,h⟩:=bd h
 refine CW.lp (s:=([],0)) (l1_spec_l22Units x0 r1) (fun s1:(List (List Int)) × Int => envL [(1,T.ptr (qModule x0)),(3,L 1 lV s1.1),(4,L 1 lV r1),(5,I s1.2)]) (fun (r7:(List (List Int))) e E => e = .exit 0 ∧ Ghost ⟨St,W,w0,Tryz.f62.ntmps⟩ E (envL [(3,L 1 lV r7)])) (.has ⟨rfl,rfl,rfl,rfl,trivial⟩) (fun s1 x h => ?_) hr7 (fun e E hq => ?_)
 refine CW.seq ?_
 refine sR ?_
 refine a_mv ?_
 refine a_mv ?_
 refine a_len ?_
 refine a_lss ?_
 refine rN ?_
 refine cn h (fun hc h => ?_) (fun hc h => ?_)
 refine CW.skip ?_
 refine nA ?_
 refine CW.seq ?_
 refine CW.block ?_
 obtain ⟨v2,hv2,h⟩:=bd h
 obtain ⟨r3,hr3,h⟩:=bd h
 obtain ⟨r4,hr4,h⟩:=bd h
 obtain ⟨v5,hv5,h⟩:=bd h
 refine CW.dk ?_
 refine d_mv [(3,_)] ?_
 refine d_ldp [(1,_)] ?_
 refine d_mv [(4,_)] ?_
 refine d_mv [(5,_)] ?_
 refine d_ix [(18,_),(4,_),(19,_)] ?_
 refine d_ld [(20,_),(4,_)] ?_
 refine dC [(17,_),(21,_),(4,_)] Tryz.call101 (t_spec_l22Inner _ _ _ hr3) ?_
 refine dC [(22,_)] Tryz.call63 (t_spec_l22Flat _ _ hr4) ?_
 refine dG [(23,_)] [([(24,some (L 1 lV [r4])),(23,some (T.same 24 [0]))],[(24,0),(23,1)])] ⟨rfl,trivial⟩ (fun E h => IxOk.opE (x_bs elt_23 [.tmp 23] [.slot 23 (L 1 I r4)] [r4] lV ⟨.slot _ _,trivial⟩ (pkS h.1 (clean_of (cleanL (Enc.clean (f:=I)))) rfl pkN) rfl rfl) rfl) ?_
 refine dG [(16,T.same 3 []),(3,L 1 lV s1.1),(24,L 1 lV [r4])] [([(16,some (L 1 lV s1.1)),(3,some (T.same 16 []))],[(16,1),(3,1)]),([(25,some (L 1 lV v5)),(16,some T.any),(24,some T.any)],[(25,0),(16,1),(24,1)])] ⟨rfl,rfl,rfl,trivial⟩ (fun E h => IxOk.gh (Ghost.tr 16 3 _ h.1 h.2.1 (clean_of (cleanL (Enc.clean (f:=lV)))) rfl) <| IxOk.opE (x_appm (f:=lV) elt_23 hv5 rfl (keepE h.2.2.1) rfl) rfl) ?_
 refine d_as [(25,_)] ?_
 refine dNA mixedP ?_
 refine nB ?_
 refine nA ?_
 refine CW.region ?_
 refine a_mv ?_
 obtain ⟨v6,hv6,h⟩:=bd h
 refine a_add ?_
 refine a_as ?_
 refine RW.ghost (Ghost.tr 3 25 _ rfl rfl (clean_of (cleanL (Enc.clean (f:=lV)))) rfl) ?_
 refine RW.nil ?_
 exact eN h
 refine CW.exit ?_
 refine xA ?_
 exact eX h
 obtain ⟨rfl,hg⟩:=hq
 refine xB ?_
 refine nA ?_
 refine CW.ghost hg ?_
 refine sR ?_
 refine a_mv ?_
 refine a_as ?_
 refine RW.ghost (Ghost.tr 2 3 _ rfl rfl (clean_of (cleanL (Enc.clean (f:=lV)))) rfl) ?_
 refine rN ?_
 refine CW.ret ?_
 obtain rfl:=sI h
 exact rT
theorem t_impl_areVectors (x0:SModule) (x1:List (List Int)) (r:Bool) (h:f_impl_areVectors x0 x1 = some r):FnC Tryz.prog 134 [T.ro ((Pt eSModule) x0),T.ro (lM x1)] [B r] []:=by
 refine fB Tryz.func134 (fun St W w0 v => ?_)
 refine sR ?_
 refine a_as ?_
 refine rN ?_
 refine CW.seq ?_
 refine sR ?_
 refine a_mv ?_
 refine a_lenr ?_
 refine a_mv ?_
 refine rN ?_
 refine CW.block ?_
 obtain ⟨r4,hr4,h⟩:=bd h
 refine CW.lp (s:=0) (l1_impl_areVectors x0 x1) (fun s1:Int => envL [(0,T.ro ((Pt eSModule) x0)),(7,T.ro (lM x1)),(8,I (x1.length:Int)),(9,I s1)]) (fun (x:Unit ⊕ Bool) e E => match x with | (.inl r4) => e = .exit 0 ∧ Ghost ⟨St,W,w0,Tryz.f134.ntmps⟩ E (envL []) | (.inr r4) => e = .ret ∧ RetG ⟨St,W,w0,Tryz.f134.ntmps⟩ Tryz.prog Tryz.f134.results [T.ro ((Pt eSModule) x0),T.ro (lM x1)] [B r4] [] .ret E) (.has ⟨rfl,rfl,rfl,rfl,trivial⟩) (fun s1 x h => ?_) hr4 (fun e E hq => ?_)
 refine sR ?_
 refine a_lss ?_
 refine rN ?_
 refine CW.seq ?_
 refine cn h (fun hc h => ?_) (fun hc h => ?_)
 refine CW.skip ?_
 refine nA ?_
 refine CW.seq ?_
 refine CW.block ?_
 refine sR ?_
 obtain ⟨v1,hv1,h⟩:=bd h
 refine a_ixr ?_
 refine a_ldr ?_
 refine a_as ?_
 refine rN ?_
 refine CW.seq ?_
 obtain ⟨r2,hr2,h⟩:=bd h
 refine CW.dk ?_
 refine d_mv [(6,_)] ?_
 refine d_mv [(0,_)] ?_
 refine d_nilc [(14,_)] ?_
 refine d_far [(15,_)] ?_
 refine d_ldr [(16,_)] ?_
 refine d_mv [(0,_)] ?_
 refine d_nilc [(18,_)] ?_
 refine d_far [(19,_)] ?_
 refine d_ldr [(20,_)] ?_
 refine dC [(13,_),(17,_),(21,_)] Tryz.call125 (t_impl_isVector _ _ _ _ hr2) ?_
 refine d_not [(22,_)] ?_
 refine dNA mixedP ?_
 refine nA ?_
 refine cn h (fun hc h => ?_) (fun hc h => ?_)
 refine sR ?_
 refine a_as ?_
 refine rN ?_
 refine CW.ret ?_
 refine rB ?_
 refine rA ?_
 exact eX h
 refine CW.skip ?_
 refine nB ?_
 refine nA ?_
 refine CW.region ?_
 obtain ⟨v3,hv3,h⟩:=bd h
 refine a_add ?_
 refine a_mv ?_
 refine RW.nil ?_
 exact eN h
 refine CW.exit ?_
 refine xA ?_
 exact eX h
 rcases r4 with r4 | r4
 obtain ⟨rfl,hg⟩:=hq
 refine xB ?_
 refine nA ?_
 refine CW.ghost hg ?_
 refine sR ?_
 refine a_as ?_
 refine rN ?_
 refine CW.ret ?_
 obtain rfl:=sI h
 exact rT
 obtain ⟨rfl,hq⟩:=hq
 refine rB ?_
 refine rA ?_
 obtain rfl:=sI h
 exact hq
theorem t_impl_areValues (x0:SPresentation) (x1:SModule) (x2:List (List Int)) (r:Bool) (h:f_impl_areValues x0 x1 x2 = some r):FnC Tryz.prog 102 [T.ro ((Pt eSPresentation) x0),T.ro ((Pt eSModule) x1),T.ro (lM x2)] [B r] []:=by
 refine fB Tryz.func102 (fun St W w0 v => ?_)
 refine sR ?_
 refine a_as ?_
 refine rN ?_
 refine sR ?_
 refine a_mv ?_
 refine a_lenr ?_
 refine a_mv ?_
 refine a_nilc ?_
 refine a_far ?_
 refine a_ldr ?_
 refine a_lenr ?_
 refine a_eql ?_
 refine a_mv ?_
 refine RW.cases 15 _ rfl (fun hc => ?_) (fun hc => ?_)
 have h:=cT hc h
 refine g_mv ?_
 refine g_mv ?_
 obtain ⟨r1,hr1,h⟩:=bd h
 refine RW.cons (IxOk.guard 8 true 15 (x_call (xs:=[.tmp 16,.tmp 17]) Tryz.call134 (t_impl_areVectors _ _ _ hr1) ⟨(agC _ rfl rfl rfl),⟨(agC _ rfl rfl rfl),trivial⟩⟩ (resC (f:=B) inferInstance resN) rfl)) ?_
 refine a_pick ?_
 refine a_as ?_
 refine rN ?_
 refine CW.ret ?_
 obtain rfl:=sI h
 exact rT
 have h:=cF hc h
 refine sk2 ?_
 refine sk2 ?_
 refine sk2 ?_
 refine a_pick ?_
 refine a_as ?_
 refine rN ?_
 refine CW.ret ?_
 obtain rfl:=sI h
 exact rT
theorem t_impl_valueOf (x0:SModule) (x1:List (List Int)) (x2:List Int) (r:(List Int)) (h:f_impl_valueOf x0 x1 x2 = some r):FnC Tryz.prog 135 [T.ro ((Pt eSModule) x0),T.ro (lM x1),T.ro (lV x2)] [lV r] []:=by
 refine fB Tryz.func135 (fun St W w0 v => ?_)
 refine sR ?_
 refine oP (x_nil 1 rfl) ?_
 refine rN ?_
 refine sR ?_
 refine a_mv ?_
 refine a_nilc ?_
 refine a_far ?_
 refine a_ldr ?_
 obtain ⟨m1,hm1,h⟩:=bd h
 refine oP (x_makeL (f:=I) (z:=0) elt_22 (rfl) hm1 rfl rfl rfl) ?_
 refine a_as ?_
 refine RW.ghost (Ghost.tr 7 14 _ rfl rfl (clean_of (cleanL (Enc.clean (f:=I)))) rfl) ?_
 refine rN ?_
 refine CW.seq ?_
 refine sR ?_
 refine a_mv ?_
 refine a_lenr ?_
 refine a_mv ?_
 refine rN ?_
 refine CW.block ?_
 obtain ⟨r10,hr10,h⟩:=bd h
 refine CW.lp (s:=(List.replicate m1 (0:Int),0)) (l1_impl_valueOf x0 x1 x2) (fun s1:(List Int) × Int => envL [(0,T.ro ((Pt eSModule) x0)),(1,T.ro (lM x1)),(7,L 1 I s1.1),(15,T.ro (lV x2)),(16,I (x2.length:Int)),(17,I s1.2)]) (fun (r10:(List Int)) e E => e = .exit 0 ∧ Ghost ⟨St,W,w0,Tryz.f135.ntmps⟩ E (envL [(7,L 1 I r10)])) (.has ⟨rfl,rfl,rfl,rfl,rfl,rfl,trivial⟩) (fun s1 x h => ?_) hr10 (fun e E hq => ?_)
 refine sR ?_
 refine a_lss ?_
 refine rN ?_
 refine CW.seq ?_
 refine cn h (fun hc h => ?_) (fun hc h => ?_)
 refine CW.skip ?_
 refine nA ?_
 refine CW.seq ?_
 refine CW.block ?_
 refine sR ?_
 obtain ⟨v2,hv2,h⟩:=bd h
 refine a_ixr ?_
 refine a_ldr ?_
 refine a_as ?_
 refine rN ?_
 refine sR ?_
 refine a_mv ?_
 refine a_mv ?_
 refine a_mv ?_
 obtain ⟨v3,hv3,h⟩:=bd h
 refine oP (x_sub hv3 rfl rfl rfl) ?_
 obtain ⟨r4,hr4,h⟩:=bd h
 refine oP (x_callF (xs:=[.tmp 22,.tmp 24]) Tryz.call58 (t_impl_actionAt _ _ _ hr4) (afC rfl rfl (afC rfl rfl afN)) rfl ⟨(cleanA ⟨(Enc.clean (f:=I) _),(Enc.clean (f:=I) _),trivial,trivial⟩),trivial⟩ rfl rfl) ?_
 obtain ⟨r5,hr5,h⟩:=bd h
 refine cA Tryz.call96 (t_impl_vectorTimes _ _ _ hr5) ?_
 refine a_as ?_
 refine RW.ghost (Ghost.tr 7 26 _ rfl rfl (clean_of (cleanL (Enc.clean (f:=I)))) rfl) ?_
 refine rN ?_
 obtain ⟨v6,hv6,h⟩:=bd h
 obtain ⟨v7,hv7,h⟩:=bd h
 obtain ⟨r8,hr8,h⟩:=bd h
 refine CW.dk ?_
 refine d_mv [(7,_)] ?_
 refine d_mv [(1,_)] ?_
 refine d_mv [(9,_)] ?_
 refine dG [(29,_)] [([(30,some (I v6))],[(30,0)])] ⟨rfl,trivial⟩ (fun E h => IxOk.opE (x_sub hv6 h.1 rfl rfl) rfl) ?_
 refine d_ixr [(28,_),(30,_)] ?_
 refine d_ldr [(31,_)] ?_
 refine d_mv [(0,_)] ?_
 refine d_nilc [(33,_)] ?_
 refine d_far [(34,_)] ?_
 refine d_ldr [(35,_)] ?_
 refine dG [(27,_),(7,_),(32,_),(36,_)] [([(27,some (L 1 I r5)),(7,some (T.same 27 []))],[(27,1),(7,1)]),([(37,some (T.tup [])),(27,some (L 1 I r8))],[(37,0),(27,1)]),([(7,some (L 1 I r8)),(27,some (T.same 7 []))],[(7,1),(27,1)])] ⟨rfl,rfl,rfl,rfl,trivial⟩ (fun E h => IxOk.opE (x_callM (xs:=[.tmp 27,.tmp 32,.const _,.tmp 36]) 0 27 7 [] Tryz.call91 (t_impl_addMultiple _ _ _ _ _ hr8) h.1 h.2.1 rfl (clean_of (cleanL (Enc.clean (f:=I)))) (clean_of (cleanL (Enc.clean (f:=I)))) (Enc.rofree (f:=L 1 I) _) (Enc.rofree (f:=L 1 I) _) ⟨(agLd rfl (clean_of (cleanL (Enc.clean (f:=I)))) (Enc.rofree (f:=L 1 I) _)),⟨(agM _ (keepL h.2.2.1) rfl rfl),⟨(agM _ rfl rfl rfl),⟨(agM _ (keepL h.2.2.2.1) rfl rfl),trivial⟩⟩⟩⟩ resN rfl rfl rfl rfl) rfl) ?_
 refine dNA mixedP ?_
 refine nB ?_
 refine nA ?_
 refine CW.region ?_
 obtain ⟨v9,hv9,h⟩:=bd h
 refine a_add ?_
 refine a_mv ?_
 refine RW.nil ?_
 exact eN h
 refine CW.exit ?_
 refine xA ?_
 exact eX h
 obtain ⟨rfl,hg⟩:=hq
 refine xB ?_
 refine nA ?_
 refine CW.ghost hg ?_
 refine sR ?_
 refine a_mv ?_
 refine a_as ?_
 refine RW.ghost (Ghost.tr 6 7 _ rfl rfl (clean_of (cleanL (Enc.clean (f:=I)))) rfl) ?_
 refine rN ?_
 refine CW.ret ?_
 obtain rfl:=sI h
 exact rT
theorem t_impl_defects (x0:SPresentation) (x1:SModule) (x2:List (List Int)) (r:(List (List Int))) (h:f_impl_defects x0 x1 x2 = some r):FnC Tryz.prog 103 [T.ro ((Pt eSPresentation) x0),T.ro ((Pt eSModule) x1),T.ro (lM x2)] [lM r] []:=by
 refine fB Tryz.func103 (fun St W w0 v => ?_)
 refine sR ?_
 refine oP (x_nil 1 rfl) ?_
 refine rN ?_
 refine sR ?_
 refine oP (x_nil 1 rfl) ?_
 refine rN ?_
 refine CW.seq ?_
 refine sR ?_
 refine a_mv ?_
 obtain ⟨r1,hr1,h⟩:=bd h
 refine cA Tryz.call82 (t_impl_relationSides _ _ hr1) ?_
 refine RW.ghost (Ghost.frz 12 (k:=2) (f:=(A2 lV)) (g:=(A2 lV)) r1 rfl inferInstance) ?_
 refine a_lenr ?_
 refine a_mv ?_
 refine rN ?_
 refine CW.block ?_
 obtain ⟨r8,hr8,h⟩:=bd h
 refine CW.lp (s:=([],0)) (l1_impl_defects x1 x2 r1) (fun s1:(List (List Int)) × Int => envL [(1,T.ro ((Pt eSModule) x1)),(2,T.ro (lM x2)),(7,L 1 lV s1.1),(12,T.ro ((L 2 (A2 lV)) r1)),(13,I (r1.length:Int)),(14,I s1.2)]) (fun (r8:(List (List Int))) e E => e = .exit 0 ∧ Ghost ⟨St,W,w0,Tryz.f103.ntmps⟩ E (envL [(7,L 1 lV r8)])) (.has ⟨rfl,rfl,rfl,rfl,rfl,rfl,trivial⟩) (fun s1 x h => ?_) hr8 (fun e E hq => ?_)
 refine sR ?_
 refine a_lss ?_
 refine rN ?_
 refine CW.seq ?_
 refine cn h (fun hc h => ?_) (fun hc h => ?_)
 refine CW.skip ?_
 refine nA ?_
 refine CW.seq ?_
 refine CW.block ?_
 refine sR ?_
 obtain ⟨v2,hv2,h⟩:=bd h
 refine a_ixr ?_
 refine a_ldr ?_
 refine a_alloc ?_
 refine oP (x_stp inf_102 rfl (locB rfl rfl) rfl rfl rfl rfl (clean_of (cleanA ⟨trivial,trivial,trivial⟩)) rfl) ?_
 refine rN ?_
 refine sR ?_
 refine a_mv ?_
 refine a_mv ?_
 refine oP (x_ixA 0 arr_102 (locB rfl rfl) rfl rfl rfl) ?_
 refine a_ld ?_
 obtain ⟨r3,hr3,h⟩:=bd h
 refine cA Tryz.call135 (t_impl_valueOf _ _ _ _ hr3) ?_
 refine a_as ?_
 refine RW.ghost (Ghost.tr 10 22 _ rfl rfl (clean_of (cleanL (Enc.clean (f:=I)))) rfl) ?_
 refine rN ?_
 refine CW.seq ?_
 obtain ⟨r4,hr4,h⟩:=bd h
 obtain ⟨r5,hr5,h⟩:=bd h
 refine CW.dk ?_
 refine d_mv [(10,_)] ?_
 refine d_mv [(1,_)] ?_
 refine d_mv [(2,_)] ?_
 refine dG [(9,_)] [([(26,some (T.addr 9 [1,0]))],[(26,0)])] ⟨rfl,trivial⟩ (fun E h => IxOk.opE (x_ixA 1 arr_102 (locB h.1 rfl) rfl rfl rfl) rfl) ?_
 refine d_ld [(26,_),(9,_)] ?_
 refine dC [(24,_),(25,_),(27,_)] Tryz.call135 (t_impl_valueOf _ _ _ _ hr4) ?_
 refine d_mv [(1,_)] ?_
 refine d_nilc [(29,_)] ?_
 refine d_far [(30,_)] ?_
 refine d_ldr [(31,_)] ?_
 refine dG [(23,_),(10,_),(28,_),(32,_)] [([(23,some (L 1 I r3)),(10,some (T.same 23 []))],[(23,1),(10,1)]),([(33,some (T.tup [])),(23,some (L 1 I r5))],[(33,0),(23,1)]),([(10,some (L 1 I r5)),(23,some (T.same 10 []))],[(10,1),(23,1)])] ⟨rfl,rfl,rfl,rfl,trivial⟩ (fun E h => IxOk.opE (x_callM (xs:=[.tmp 23,.tmp 28,.const _,.tmp 32]) 0 23 10 [] Tryz.call91 (t_impl_addMultiple _ _ _ _ _ hr5) h.1 h.2.1 rfl (clean_of (cleanL (Enc.clean (f:=I)))) (clean_of (cleanL (Enc.clean (f:=I)))) (Enc.rofree (f:=L 1 I) _) (Enc.rofree (f:=L 1 I) _) ⟨(agLd rfl (clean_of (cleanL (Enc.clean (f:=I)))) (Enc.rofree (f:=L 1 I) _)),⟨(agM _ (keepL h.2.2.1) (cloO inferInstance) rfl),⟨(agM _ rfl rfl rfl),⟨(agM _ (keepL h.2.2.2.1) rfl rfl),trivial⟩⟩⟩⟩ resN rfl rfl rfl rfl) rfl) ?_
 refine dNA mixedP ?_
 refine nA ?_
 refine CW.region ?_
 refine a_mv ?_
 refine a_mv ?_
 refine RW.ghost (Ghost.tr 35 10 _ rfl rfl (clean_of (cleanL (Enc.clean (f:=I)))) rfl) ?_
 refine oP (x_bs elt_23 [.tmp 35] [.slot 35 (L 1 I r5)] [r5] lV ⟨.slot _ _,trivial⟩ (pkS rfl (clean_of (cleanL (Enc.clean (f:=I)))) rfl pkN) rfl rfl) ?_
 refine RW.ghost (Ghost.tr 34 7 _ rfl rfl (clean_of (cleanL (Enc.clean (f:=lV)))) rfl) ?_
 obtain ⟨v6,hv6,h⟩:=bd h
 refine oP (x_appm (f:=lV) elt_23 hv6 rfl rfl rfl) ?_
 refine a_as ?_
 refine RW.ghost (Ghost.tr 7 37 _ rfl rfl (clean_of (cleanL (Enc.clean (f:=lV)))) rfl) ?_
 refine RW.nil ?_
 refine nB ?_
 refine nA ?_
 refine CW.to [(1,T.ro ((Pt eSModule) x1)),(2,T.ro (lM x2)),(7,L 1 lV v6),(12,T.ro ((L 2 (A2 lV)) r1)),(13,I (r1.length:Int)),(14,I s1.2)] ⟨rfl,rfl,rfl,rfl,rfl,rfl,trivial⟩ ?_
 refine CW.region ?_
 obtain ⟨v7,hv7,h⟩:=bd h
 refine a_add ?_
 refine a_mv ?_
 refine RW.nil ?_
 exact eN h
 refine CW.exit ?_
 refine xA ?_
 exact eX h
 obtain ⟨rfl,hg⟩:=hq
 refine xB ?_
 refine nA ?_
 refine CW.ghost hg ?_
 refine sR ?_
 refine a_mv ?_
 refine a_as ?_
 refine RW.ghost (Ghost.tr 6 7 _ rfl rfl (clean_of (cleanL (Enc.clean (f:=lV)))) rfl) ?_
 refine rN ?_
 refine CW.ret ?_
 obtain rfl:=sI h
 exact rT
theorem t_slices_Grow_int64_int64 (x1:Int) (r:(List Int)) (h:f_slices_Grow_int64_int64 x1 = some r):FnC Tryz.prog 107 [T.lit (.slice none 0 0),I x1] [lV r] []:=by
 refine fB Tryz.func107 (fun St W w0 v => ?_)
 refine sR ?_
 refine oP (x_nil 1 rfl) ?_
 refine rN ?_
 refine CW.seq ?_
 refine sR ?_
 refine a_mv ?_
 refine a_lss ?_
 refine rN ?_
 refine cn h (fun hc h => ?_) (fun hc h => ?_)
 ·refine CW.region ?_
  cases h
 ·refine CW.skip ?_
  refine nA ?_
  refine CW.seq ?_
  refine sR ?_
  refine a_mv ?_
  refine a_mv ?_
  refine oP (x_capnil Tryz.underlying22 rfl rfl) ?_
  refine a_mv ?_
  refine oP (x_lennil Tryz.underlying22 rfl rfl) ?_
  obtain ⟨v1,hv1,h⟩:=bd h
  refine a_sub ?_
  obtain ⟨v2,hv2,h⟩:=bd h
  refine a_sub ?_
  refine a_as ?_
  refine rN ?_
  refine sR ?_
  refine a_mv ?_
  refine a_gtr ?_
  refine rN ?_
  refine cn h (fun hc h => ?_) (fun hc h => ?_)
  ·refine CW.region ?_
   refine a_mv ?_
   refine a_mv ?_
   refine oP (x_capnil Tryz.underlying22 rfl rfl) ?_
   refine oP (x_slnil elt_22 rfl rfl rfl) ?_
   refine a_mv ?_
   obtain ⟨v3,hv3,h⟩:=bd h
   refine oP (x_appz (f:=I) (z:=0) elt_22 Tryz.underlying3 (rfl) hv3 rfl rfl rfl) ?_
   refine a_mv ?_
   refine oP (x_lennil Tryz.underlying22 rfl rfl) ?_
   obtain ⟨v4,hv4,h⟩:=bd h
   refine oP (x_cut (f:=I) elt_22 hv4 rfl rfl (.inl rfl) rfl) ?_
   refine a_as ?_
   refine RW.ghost (Ghost.tr 0 25 _ rfl rfl (clean_of (cleanL (Enc.clean (f:=I)))) rfl) ?_
   refine rN ?_
   refine sR ?_
   refine a_mv ?_
   refine a_as ?_
   refine RW.ghost (Ghost.tr 4 0 _ rfl rfl (clean_of (cleanL (Enc.clean (f:=I)))) rfl) ?_
   refine rN ?_
   refine CW.ret ?_
   obtain rfl:=sI h
   exact rT
  ·refine CW.skip ?_
   refine nA ?_
   refine sR ?_
   refine a_mv ?_
   refine a_as ?_
   refine rN ?_
   refine CW.ghost (Ghost.nil 4 1 rfl) ?_
   refine CW.ret ?_
   obtain rfl:=sI h
   exact rT
theorem t_slices_Concat_int64_int64 (x0:List (List Int)) (r:(List Int)) (h:f_slices_Concat_int64_int64 x0 = some r):FnC Tryz.prog 68 [T.ro (lM x0)] [lV r] []:=by
 refine fB Tryz.func68 (fun St W w0 v => ?_)
 refine sR ?_
 refine oP (x_nil 1 rfl) ?_
 refine rN ?_
 refine sR ?_
 refine a_as ?_
 refine rN ?_
 refine CW.seq ?_
 refine sR ?_
 refine a_mv ?_
 refine a_lenr ?_
 refine a_mv ?_
 refine rN ?_
 refine CW.block ?_
 obtain ⟨r4,hr4,h⟩:=bd h
 refine CW.lp (s:=(0,0)) (l1_slices_Concat_int64_int64 x0) (fun s1:Int × Int => envL [(0,T.ro (lM x0)),(3,I s1.1),(9,T.ro (lM x0)),(10,I (x0.length:Int)),(11,I s1.2)]) (fun (r4:Int) e E => e = .exit 0 ∧ Ghost ⟨St,W,w0,Tryz.f68.ntmps⟩ E (envL [(0,T.ro (lM x0)),(3,I r4)])) (.has ⟨rfl,rfl,rfl,rfl,rfl,trivial⟩) (fun s1 x h => ?_) hr4 (fun e E hq => ?_)
 ·refine sR ?_
  refine a_lss ?_
  refine rN ?_
  refine CW.seq ?_
  refine cn h (fun hc h => ?_) (fun hc h => ?_)
  ·refine CW.skip ?_
   refine nA ?_
   refine CW.seq ?_
   refine CW.block ?_
   refine sR ?_
   obtain ⟨v1,hv1,h⟩:=bd h
   refine a_ixr ?_
   refine a_ldr ?_
   refine a_as ?_
   refine rN ?_
   refine sR ?_
   refine a_mv ?_
   refine a_mv ?_
   refine a_lenr ?_
   obtain ⟨v2,hv2,h⟩:=bd h
   refine a_add ?_
   refine a_as ?_
   refine rN ?_
   refine sR ?_
   refine a_mv ?_
   refine a_lss ?_
   refine rN ?_
   refine cn h (fun hc h => ?_) (fun hc h => ?_)
   ·refine CW.region ?_
    cases h
   ·refine CW.skip ?_
    refine nB ?_
    refine nA ?_
    refine CW.region ?_
    obtain ⟨v3,hv3,h⟩:=bd h
    refine a_add ?_
    refine a_mv ?_
    refine RW.nil ?_
    exact eN h
  ·refine CW.exit ?_
   refine xA ?_
   exact eX h
 ·obtain ⟨rfl,hg⟩:=hq
  refine xB ?_
  refine nA ?_
  refine CW.ghost hg ?_
  refine sR ?_
  refine a_mv ?_
  obtain ⟨r5,hr5,h⟩:=bd h
  refine cA Tryz.call107 (t_slices_Grow_int64_int64 _ _ hr5) ?_
  refine a_as ?_
  refine RW.ghost (Ghost.tr 6 24 _ rfl rfl (clean_of (cleanL (Enc.clean (f:=I)))) rfl) ?_
  refine rN ?_
  refine CW.seq ?_
  refine sR ?_
  refine a_mv ?_
  refine a_lenr ?_
  refine a_mv ?_
  refine rN ?_
  refine CW.block ?_
  obtain ⟨r9,hr9,h⟩:=bd h
  refine CW.lp (s:=(r5,0)) (l2_slices_Concat_int64_int64 x0) (fun s3:(List Int) × Int => envL [(6,L 1 I s3.1),(25,T.ro (lM x0)),(26,I (x0.length:Int)),(27,I s3.2)]) (fun (r9:(List Int)) e E => e = .exit 2 ∧ Ghost ⟨St,W,w0,Tryz.f68.ntmps⟩ E (envL [(6,L 1 I r9)])) (.has ⟨rfl,rfl,rfl,rfl,trivial⟩) (fun s3 x h => ?_) hr9 (fun e E hq => ?_)
  ·refine sR ?_
   refine a_lss ?_
   refine rN ?_
   refine CW.seq ?_
   refine cn h (fun hc h => ?_) (fun hc h => ?_)
   ·refine CW.skip ?_
    refine nA ?_
    refine CW.seq ?_
    refine CW.block ?_
    refine sR ?_
    obtain ⟨v6,hv6,h⟩:=bd h
    refine a_ixr ?_
    refine a_ldr ?_
    refine a_as ?_
    refine rN ?_
    refine CW.region ?_
    refine a_mv ?_
    refine a_mv ?_
    refine RW.ghost (Ghost.tr 31 6 _ rfl rfl (clean_of (cleanL (Enc.clean (f:=I)))) rfl) ?_
    obtain ⟨v7,hv7,h⟩:=bd h
    refine oP (x_appr (f:=I) (g:=I) elt_22 (fun _ => rfl) (fun _ => rfl) inferInstance hv7 rfl (locB rfl rfl) rfl) ?_
    refine a_as ?_
    refine RW.ghost (Ghost.tr 6 33 _ rfl rfl (clean_of (cleanL (Enc.clean (f:=I)))) rfl) ?_
    refine RW.nil ?_
    refine nB ?_
    refine nA ?_
    refine CW.region ?_
    obtain ⟨v8,hv8,h⟩:=bd h
    refine a_add ?_
    refine a_mv ?_
    refine RW.nil ?_
    exact eN h
   ·refine CW.exit ?_
    refine xA ?_
    exact eX h
  ·obtain ⟨rfl,hg⟩:=hq
   refine xB ?_
   refine nA ?_
   refine CW.ghost hg ?_
   refine sR ?_
   refine a_mv ?_
   refine a_as ?_
   refine RW.ghost (Ghost.tr 2 6 _ rfl rfl (clean_of (cleanL (Enc.clean (f:=I)))) rfl) ?_
   refine rN ?_
   refine CW.ret ?_
   obtain rfl:=sI h
   exact rT
theorem t_impl_derivationCode (x0:SPresentation) (x1:SModule) (x2:List (List Int)) (r:Int) (h:f_impl_derivationCode x0 x1 x2 = some r):FnC Tryz.prog 64 [T.ro ((Pt eSPresentation) x0),T.ro ((Pt eSModule) x1),T.ro (lM x2)] [I r] []:=by
 refine fB Tryz.func64 (fun St W w0 v => ?_)
 refine sR ?_
 refine a_as ?_
 refine rN ?_
 refine CW.seq ?_
 refine sR ?_
 refine a_mv ?_
 refine a_mv ?_
 obtain ⟨r1,hr1,h⟩:=bd h
 refine cA Tryz.call46 (t_impl_isModule _ _ _ hr1) ?_
 refine a_not ?_
 refine a_mv ?_
 refine RW.cases 11 _ rfl (fun hc => ?_) (fun hc => ?_)
 have h:=cT hc h
 refine sk2 ?_
 refine sk2 ?_
 refine sk2 ?_
 refine sk2 ?_
 refine sk2 ?_
 refine a_pick ?_
 refine rN ?_
 refine CW.condT rfl ?_
 refine sR ?_
 refine a_as ?_
 refine rN ?_
 refine CW.ret ?_
 refine rA ?_
 obtain rfl:=sI h
 exact rT
 have h:=cF hc h
 refine g_mv ?_
 refine g_mv ?_
 refine g_mv ?_
 obtain ⟨r2,hr2,h⟩:=bd h
 refine RW.cons (IxOk.guard 4 false 11 (x_call (xs:=[.tmp 12,.tmp 13,.tmp 14]) Tryz.call102 (t_impl_areValues _ _ _ _ hr2) ⟨(agC _ rfl rfl rfl),⟨(agC _ rfl rfl rfl),⟨(agC _ rfl rfl rfl),trivial⟩⟩⟩ (resC (f:=B) inferInstance resN) rfl)) ?_
 refine g_not ?_
 refine a_pick ?_
 refine rN ?_
 refine cn h (fun hc h => ?_) (fun hc h => ?_)
 refine sR ?_
 refine a_as ?_
 refine rN ?_
 refine CW.ret ?_
 refine rA ?_
 obtain rfl:=sI h
 exact rT
 refine CW.skip ?_
 refine nA ?_
 refine CW.seq ?_
 refine sR ?_
 refine a_mv ?_
 refine a_mv ?_
 refine a_mv ?_
 obtain ⟨r3,hr3,h⟩:=bd h
 refine cA Tryz.call103 (t_impl_defects _ _ _ _ hr3) ?_
 obtain ⟨r4,hr4,h⟩:=bd h
 refine cA Tryz.call68 (t_slices_Concat_int64_int64 _ _ hr4) ?_
 obtain ⟨r5,hr5,h⟩:=bd h
 refine cA Tryz.call86 (t_impl_isZero _ _ hr5) ?_
 refine a_not ?_
 refine rN ?_
 refine cn h (fun hc h => ?_) (fun hc h => ?_)
 refine sR ?_
 refine a_as ?_
 refine rN ?_
 refine CW.ret ?_
 refine rA ?_
 obtain rfl:=sI h
 exact rT
 refine CW.skip ?_
 refine nA ?_
 refine sR ?_
 refine a_as ?_
 refine rN ?_
 refine CW.ret ?_
 obtain rfl:=sI h
 exact rT
theorem t_impl_innerDerivation (x0:SPresentation) (x1:SModule) (x2:List Int) (r:(List (List Int))) (h:f_impl_innerDerivation x0 x1 x2 = some r):FnC Tryz.prog 105 [T.ro ((Pt eSPresentation) x0),T.ro ((Pt eSModule) x1),T.ro (lV x2)] [lM r] []:=by
 refine fB Tryz.func105 (fun St W w0 v => ?_)
 refine sR ?_
 refine oP (x_nil 1 rfl) ?_
 refine rN ?_
 refine sR ?_
 refine oP (x_nil 1 rfl) ?_
 refine rN ?_
 refine CW.seq ?_
 refine sR ?_
 refine a_mv ?_
 refine a_nilc ?_
 refine a_far ?_
 refine a_ldr ?_
 refine a_lenr ?_
 refine a_mv ?_
 refine rN ?_
 refine CW.block ?_
 obtain ⟨r6,hr6,h⟩:=bd h
 refine CW.lp (s:=([],0)) (l1_impl_innerDerivation x0 x1 x2) (fun s1:(List (List Int)) × Int => envL [(1,T.ro ((Pt eSModule) x1)),(2,T.ro (lV x2)),(7,L 1 lV s1.1),(14,I (x0.Orders.length:Int)),(15,I s1.2)]) (fun (r6:(List (List Int))) e E => e = .exit 0 ∧ Ghost ⟨St,W,w0,Tryz.f105.ntmps⟩ E (envL [(7,L 1 lV r6)])) (.has ⟨rfl,rfl,rfl,rfl,rfl,trivial⟩) (fun s1 x h => ?_) hr6 (fun e E hq => ?_)
 refine sR ?_
 refine a_lss ?_
 refine rN ?_
 refine CW.seq ?_
 refine cn h (fun hc h => ?_) (fun hc h => ?_)
 refine CW.skip ?_
 refine nA ?_
 refine CW.seq ?_
 refine CW.block ?_
 refine sR ?_
 refine a_mv ?_
 refine a_as ?_
 refine rN ?_
 refine sR ?_
 refine a_mv ?_
 refine a_mv ?_
 refine a_mv ?_
 obtain ⟨r1,hr1,h⟩:=bd h
 refine oP (x_callF (xs:=[.tmp 19,.tmp 20]) Tryz.call58 (t_impl_actionAt _ _ _ hr1) (afC rfl rfl (afC rfl rfl afN)) rfl ⟨(cleanA ⟨(Enc.clean (f:=I) _),(Enc.clean (f:=I) _),trivial,trivial⟩),trivial⟩ rfl rfl) ?_
 obtain ⟨r2,hr2,h⟩:=bd h
 refine cA Tryz.call96 (t_impl_vectorTimes _ _ _ hr2) ?_
 refine a_as ?_
 refine RW.ghost (Ghost.tr 9 22 _ rfl rfl (clean_of (cleanL (Enc.clean (f:=I)))) rfl) ?_
 refine rN ?_
 refine sR ?_
 refine a_mv ?_
 refine a_mv ?_
 refine a_mv ?_
 refine a_nilc ?_
 refine a_far ?_
 refine a_ldr ?_
 obtain ⟨r3,hr3,h⟩:=bd h
 refine oP (x_callM (xs:=[.tmp 23,.tmp 24,.const _,.tmp 28]) 0 23 9 [] Tryz.call91 (t_impl_addMultiple _ _ _ _ _ hr3) rfl rfl rfl (clean_of (cleanL (Enc.clean (f:=I)))) (clean_of (cleanL (Enc.clean (f:=I)))) (Enc.rofree (f:=L 1 I) _) (Enc.rofree (f:=L 1 I) _) ⟨(agLd rfl (clean_of (cleanL (Enc.clean (f:=I)))) (Enc.rofree (f:=L 1 I) _)),⟨(agM _ rfl rfl rfl),⟨(agM _ rfl rfl rfl),⟨(agM _ rfl rfl rfl),trivial⟩⟩⟩⟩ resN rfl rfl rfl rfl) ?_
 refine rN ?_
 refine CW.region ?_
 refine a_mv ?_
 refine a_mv ?_
 refine RW.ghost (Ghost.tr 31 9 _ rfl rfl (clean_of (cleanL (Enc.clean (f:=I)))) rfl) ?_
 refine oP (x_bs elt_23 [.tmp 31] [.slot 31 (L 1 I r3)] [r3] lV ⟨.slot _ _,trivial⟩ (pkS rfl (clean_of (cleanL (Enc.clean (f:=I)))) rfl pkN) rfl rfl) ?_
 refine RW.ghost (Ghost.tr 30 7 _ rfl rfl (clean_of (cleanL (Enc.clean (f:=lV)))) rfl) ?_
 obtain ⟨v4,hv4,h⟩:=bd h
 refine oP (x_appm (f:=lV) elt_23 hv4 rfl rfl rfl) ?_
 refine a_as ?_
 refine RW.ghost (Ghost.tr 7 33 _ rfl rfl (clean_of (cleanL (Enc.clean (f:=lV)))) rfl) ?_
 refine RW.nil ?_
 refine nB ?_
 refine nA ?_
 refine CW.region ?_
 obtain ⟨v5,hv5,h⟩:=bd h
 refine a_add ?_
 refine a_mv ?_
 refine RW.nil ?_
 exact eN h
 refine CW.exit ?_
 refine xA ?_
 exact eX h
 obtain ⟨rfl,hg⟩:=hq
 refine xB ?_
 refine nA ?_
 refine CW.ghost hg ?_
 refine sR ?_
 refine a_mv ?_
 refine a_as ?_
 refine RW.ghost (Ghost.tr 6 7 _ rfl rfl (clean_of (cleanL (Enc.clean (f:=lV)))) rfl) ?_
 refine rN ?_
 refine CW.ret ?_
 obtain rfl:=sI h
 exact rT
theorem t_impl_innerRows (x0:SPresentation) (x1:SModule) (r:(List (List Int))) (h:f_impl_innerRows x0 x1 = some r):FnC Tryz.prog 66 [T.ro ((Pt eSPresentation) x0),T.ro ((Pt eSModule) x1)] [lM r] []:=by
 refine fB Tryz.func66 (fun St W w0 v => ?_)
 refine sR ?_
 refine oP (x_nil 1 rfl) ?_
 refine rN ?_
 refine sR ?_
 refine oP (x_nil 1 rfl) ?_
 refine rN ?_
 refine CW.seq ?_
 refine sR ?_
 refine a_mv ?_
 refine a_nilc ?_
 refine a_far ?_
 refine a_ldr ?_
 refine a_mv ?_
 refine rN ?_
 refine CW.block ?_
 obtain ⟨r6,hr6,h⟩:=bd h
 refine CW.lp (s:=([],0)) (l1_impl_innerRows x0 x1) (fun s1:(List (List Int)) × Int => envL [(0,T.ro ((Pt eSPresentation) x0)),(1,T.ro ((Pt eSModule) x1)),(5,L 1 lV s1.1),(10,I x1.Dim),(11,I s1.2)]) (fun (r6:(List (List Int))) e E => e = .exit 0 ∧ Ghost ⟨St,W,w0,Tryz.f66.ntmps⟩ E (envL [(5,L 1 lV r6)])) (.has ⟨rfl,rfl,rfl,rfl,rfl,trivial⟩) (fun s1 x h => ?_) hr6 (fun e E hq => ?_)
 refine sR ?_
 refine a_lss ?_
 refine rN ?_
 refine CW.seq ?_
 refine cn h (fun hc h => ?_) (fun hc h => ?_)
 refine CW.skip ?_
 refine nA ?_
 refine CW.seq ?_
 refine CW.block ?_
 refine sR ?_
 refine a_mv ?_
 refine a_as ?_
 refine rN ?_
 refine CW.region ?_
 refine a_mv ?_
 refine a_mv ?_
 refine a_mv ?_
 refine a_mv ?_
 refine a_nilc ?_
 refine a_far ?_
 refine a_ldr ?_
 refine a_mv ?_
 obtain ⟨r1,hr1,h⟩:=bd h
 refine cA Tryz.call106 (t_impl_unitVector _ _ _ hr1) ?_
 obtain ⟨r2,hr2,h⟩:=bd h
 refine cA Tryz.call105 (t_impl_innerDerivation _ _ _ _ hr2) ?_
 obtain ⟨r3,hr3,h⟩:=bd h
 refine cA Tryz.call68 (t_slices_Concat_int64_int64 _ _ hr3) ?_
 refine oP (x_bs elt_23 [.tmp 24] [.slot 24 (L 1 I r3)] [r3] lV ⟨.slot _ _,trivial⟩ (pkS rfl (clean_of (cleanL (Enc.clean (f:=I)))) rfl pkN) rfl rfl) ?_
 refine RW.ghost (Ghost.tr 14 5 _ rfl rfl (clean_of (cleanL (Enc.clean (f:=lV)))) rfl) ?_
 obtain ⟨v4,hv4,h⟩:=bd h
 refine oP (x_appm (f:=lV) elt_23 hv4 rfl rfl rfl) ?_
 refine a_as ?_
 refine RW.ghost (Ghost.tr 5 26 _ rfl rfl (clean_of (cleanL (Enc.clean (f:=lV)))) rfl) ?_
 refine RW.nil ?_
 refine nB ?_
 refine nA ?_
 refine CW.region ?_
 obtain ⟨v5,hv5,h⟩:=bd h
 refine a_add ?_
 refine a_mv ?_
 refine RW.nil ?_
 exact eN h
 refine CW.exit ?_
 refine xA ?_
 exact eX h
 obtain ⟨rfl,hg⟩:=hq
 refine xB ?_
 refine nA ?_
 refine CW.ghost hg ?_
 refine sR ?_
 refine a_mv ?_
 refine a_as ?_
 refine RW.ghost (Ghost.tr 4 5 _ rfl rfl (clean_of (cleanL (Enc.clean (f:=lV)))) rfl) ?_
 refine rN ?_
 refine CW.ret ?_
 obtain rfl:=sI h
 exact rT
theorem t_spec_InnerVector (x0:SPresentation) (x1:SModule) (x2:List (List Int)) (r:(List Int) × Int) (h:f_spec_InnerVector x0 x1 x2 = some r):FnC Tryz.prog 31 [qPresentation x0,qModule x1,T.ro (lM x2)] [lV r.1,I r.2] []:=by
 refine fB Tryz.func31 (fun St W w0 v => ?_)
 refine sR ?_
 refine a_box ?_
 refine a_box ?_
 refine oP (x_nil 1 rfl) ?_
 refine a_as ?_
 refine rN ?_
 refine CW.seq ?_
 refine sR ?_
 refine a_ldp ?_
 refine a_ldp ?_
 refine a_mv ?_
 obtain ⟨r1,hr1,h⟩:=bd h
 refine cA Tryz.call59 (t_spec_l22Code _ _ _ _ hr1) ?_
 refine a_as ?_
 refine rN ?_
 refine sR ?_
 refine a_mv ?_
 refine a_neq ?_
 refine rN ?_
 refine cn h (fun hc h => ?_) (fun hc h => ?_)
 refine sR ?_
 refine a_mv ?_
 refine oP (x_nil 1 rfl) ?_
 refine a_as ?_
 refine rN ?_
 refine CW.ret ?_
 refine rA ?_
 obtain rfl:=sI h
 exact rT
 refine CW.skip ?_
 refine nA ?_
 refine CW.seq ?_
 obtain ⟨r2,hr2,h⟩:=bd h
 obtain ⟨v3,hv3,h⟩:=bd h
 obtain ⟨r4,hr4,h⟩:=bd h
 obtain ⟨r5,hr5,h⟩:=bd h
 refine CW.dk ?_
 refine d_fa [(4,_)] ?_
 refine d_ld [(19,_),(4,_)] ?_
 refine d_ldp [(4,_)] ?_
 refine dC [(21,_)] Tryz.call62 (t_spec_l22Units _ _ hr2) ?_
 refine d_fa [(3,_)] ?_
 refine d_ld [(23,_),(3,_)] ?_
 refine d_lenr [(24,_)] ?_
 refine d_fa [(4,_)] ?_
 refine d_ld [(26,_),(4,_)] ?_
 refine d_mul [(25,_),(27,_)] ?_
 refine d_mv [(2,_)] ?_
 refine dC [(29,_)] Tryz.call63 (t_spec_l22Flat _ _ hr4) ?_
 refine dC [(20,_),(22,_),(28,_),(30,_)] Tryz.call55 (t_spec_l02Solve _ _ _ _ _ hr5) ?_
 refine d_mvT [(31,_)] ?_
 refine d_ext [(18,_)] ?_
 refine d_ext [(18,_)] ?_
 refine d_as [(32,_)] ?_
 refine d_as [(33,_)] ?_
 refine dNA mixedP ?_
 refine nA ?_
 refine CW.ghost (Ghost.trq 9 31 [0] rfl rfl rfl (clean_of (cleanL (Enc.clean (f:=I)))) rfl) ?_
 refine CW.seq ?_
 refine CW.seq ?_
 refine CW.to [(9,L 1 I r5.1),(10,B r5.2)] ⟨rfl,rfl,trivial⟩ ?_
 refine CW.region ?_
 refine a_mv ?_
 refine a_not ?_
 refine rN ?_
 refine cn h (fun hc h => ?_) (fun hc h => ?_)
 refine sR ?_
 refine oP (x_nil 1 rfl) ?_
 refine a_as ?_
 refine rN ?_
 refine CW.ret ?_
 refine rA ?_
 obtain rfl:=sI h
 exact rT
 refine CW.skip ?_
 refine nA ?_
 refine sR ?_
 refine a_mv ?_
 refine a_as ?_
 refine a_as ?_
 refine RW.ghost (Ghost.tr 6 9 _ rfl rfl (clean_of (cleanL (Enc.clean (f:=I)))) rfl) ?_
 refine rN ?_
 refine CW.ret ?_
 obtain rfl:=sI h
 exact rT
theorem t_impl_wide (x0:Int) (x1:List (List Int)) (r:SMatrix) (h:f_impl_wide x0 x1 = some r):FnC Tryz.prog 70 [I x0,T.ro (lM x1)] [(fun x => T.agg [I x.Prime,I x.Columns,(Ro lM) x.Rows]) r] []:=by
 refine fB Tryz.func70 (fun St W w0 v => ?_)
 refine sR ?_
 refine a_alloc ?_
 refine rN ?_
 refine sR ?_
 refine a_mv ?_
 refine a_mv ?_
 obtain ⟨v1,hv1,h⟩:=bd h
 refine a_ixr ?_
 refine a_ldr ?_
 refine a_lenr ?_
 refine a_mv ?_
 refine oP (x_build bld_40 [(0,.tmp 5),(1,.tmp 9),(2,.tmp 10)] [(0,.slot 5 (I x0)),(1,.slot 9 (I (v1.length:Int))),(2,.slot 10 (T.ro (lM x1)))] [.slot 5 (I x0),.slot 9 (I (v1.length:Int)),.slot 10 (T.ro (lM x1))] (pkS rfl (clean_of (Enc.clean (f:=I) _)) rfl (pkS rfl (clean_of (Enc.clean (f:=I) _)) rfl (pkS rfl (clean_of trivial) rfl pkN))) (bqC (.slot _ _) (bqC (.slot _ _) (bqC (.slot _ _) bqN))) rfl) ?_
 refine oP (x_stp inf_40 rfl (locB rfl rfl) rfl rfl rfl rfl (clean_of (cleanA ⟨(Enc.clean (f:=I) _),(Enc.clean (f:=I) _),trivial,trivial⟩)) rfl) ?_
 refine rN ?_
 refine CW.ret ?_
 obtain rfl:=sI h
 exact ⟨_,Ghost.refl,⟨.inl rfl,[(4,[0],T.agg [I x0,I (v1.length:Int),T.ro (lM x1)])],⟨⟨rfl,rfl,rfl,(var_40.h _ rfl rfl).h⟩,trivial⟩,rfl,(by simp),(by simp),trivial⟩⟩
theorem t_impl_withIdentity (x0:List (List Int)) (r:(List (List Int))) (h:f_impl_withIdentity x0 = some r):FnC Tryz.prog 108 [T.ro (lM x0)] [lM r] []:=by
 refine fB Tryz.func108 (fun St W w0 v => ?_)
 refine sR ?_
 refine oP (x_nil 1 rfl) ?_
 refine rN ?_
 refine sR ?_
 refine oP (x_nil 1 rfl) ?_
 refine rN ?_
 refine CW.seq ?_
 refine sR ?_
 refine a_mv ?_
 refine a_lenr ?_
 refine a_mv ?_
 refine rN ?_
 refine CW.block ?_
 obtain ⟨r8,hr8,h⟩:=bd h
 refine CW.lp (s:=([],0)) (l1_impl_withIdentity x0) (fun s1:(List (List Int)) × Int => envL [(0,T.ro (lM x0)),(3,L 1 lV s1.1),(7,T.ro (lM x0)),(8,I (x0.length:Int)),(9,I s1.2)]) (fun (r8:(List (List Int))) e E => e = .exit 0 ∧ Ghost ⟨St,W,w0,Tryz.f108.ntmps⟩ E (envL [(3,L 1 lV r8)])) (.has ⟨rfl,rfl,rfl,rfl,rfl,trivial⟩) (fun s1 x h => ?_) hr8 (fun e E hq => ?_)
 refine sR ?_
 refine a_lss ?_
 refine rN ?_
 refine CW.seq ?_
 refine cn h (fun hc h => ?_) (fun hc h => ?_)
 refine CW.skip ?_
 refine nA ?_
 refine CW.seq ?_
 refine CW.block ?_
 refine sR ?_
 refine a_mv ?_
 obtain ⟨v1,hv1,h⟩:=bd h
 refine a_ixr ?_
 refine a_ldr ?_
 refine a_as ?_
 refine a_as ?_
 refine rN ?_
 refine sR ?_
 refine a_mv ?_
 refine a_lenr ?_
 refine a_mv ?_
 refine a_lenr ?_
 obtain ⟨v2,hv2,h⟩:=bd h
 refine a_add ?_
 obtain ⟨m3,hm3,h⟩:=bd h
 refine oP (x_makeL (f:=I) (z:=0) elt_22 (rfl) hm3 rfl rfl rfl) ?_
 refine a_as ?_
 refine RW.ghost (Ghost.tr 6 19 _ rfl rfl (clean_of (cleanL (Enc.clean (f:=I)))) rfl) ?_
 refine rN ?_
 refine sR ?_
 refine a_mv ?_
 refine a_mv ?_
 refine oP (x_copyI elt_22 rfl (fun _ => (DstOf.same rfl rfl)) (fun _ => (SrcOf.ro (locB rfl rfl))) (Nat.zero_le _) (Nat.le_refl _) rfl) ?_
 refine rN ?_
 refine sR ?_
 refine a_mv ?_
 refine a_mv ?_
 refine a_lenr ?_
 refine a_mv ?_
 obtain ⟨v4,hv4,h⟩:=bd h
 refine a_add ?_
 obtain ⟨v5,hv5,h⟩:=bd h
 refine a_ix ?_
 refine oP (x_stcT inf_2 rfl rfl rfl (getc hv5 rfl) (setc hv5 rfl) rfl rfl) ?_
 refine rN ?_
 refine CW.region ?_
 refine a_mv ?_
 refine a_mv ?_
 refine RW.ghost (Ghost.tr 30 6 _ rfl rfl (clean_of (cleanL (Enc.clean (f:=I)))) rfl) ?_
 refine oP (x_bs elt_23 [.tmp 30] [.slot 30 (L 1 I ((splice (List.replicate m3 (0:Int)) 0 (v1.take (((List.replicate m3 (0:Int)).length) - 0))).set v4.toNat 1))] [(splice (List.replicate m3 (0:Int)) 0 (v1.take (((List.replicate m3 (0:Int)).length) - 0))).set v4.toNat 1] lV ⟨.slot _ _,trivial⟩ (pkS rfl (clean_of (cleanL (Enc.clean (f:=I)))) rfl pkN) rfl rfl) ?_
 refine RW.ghost (Ghost.tr 29 3 _ rfl rfl (clean_of (cleanL (Enc.clean (f:=lV)))) rfl) ?_
 obtain ⟨v6,hv6,h⟩:=bd h
 refine oP (x_appm (f:=lV) elt_23 hv6 rfl rfl rfl) ?_
 refine a_as ?_
 refine RW.ghost (Ghost.tr 3 32 _ rfl rfl (clean_of (cleanL (Enc.clean (f:=lV)))) rfl) ?_
 refine RW.nil ?_
 refine nB ?_
 refine nA ?_
 refine CW.to [(0,T.ro (lM x0)),(3,L 1 lV v6),(7,T.ro (lM x0)),(8,I (x0.length:Int)),(9,I s1.2)] ⟨rfl,rfl,rfl,rfl,rfl,trivial⟩ ?_
 refine CW.region ?_
 obtain ⟨v7,hv7,h⟩:=bd h
 refine a_add ?_
 refine a_mv ?_
 refine RW.nil ?_
 exact eN h
 refine CW.exit ?_
 refine xA ?_
 exact eX h
 obtain ⟨rfl,hg⟩:=hq
 refine xB ?_
 refine nA ?_
 refine CW.ghost hg ?_
 refine sR ?_
 refine a_mv ?_
 refine a_as ?_
 refine RW.ghost (Ghost.tr 2 3 _ rfl rfl (clean_of (cleanL (Enc.clean (f:=lV)))) rfl) ?_
 refine rN ?_
 refine CW.ret ?_
 obtain rfl:=sI h
 exact rT
theorem t_impl_solveRows_1 (x0:Int) (r:Bool) (h:f_impl_solveRows_1 x0 = some r):FnC Tryz.prog 109 [I x0] [B r] []:=by
 refine fB Tryz.func109 (fun St W w0 v => ?_)
 refine sR ?_
 refine a_as ?_
 refine rN ?_
 refine sR ?_
 refine a_mv ?_
 refine a_neq ?_
 refine a_as ?_
 refine rN ?_
 refine CW.ret ?_
 obtain rfl:=sI h
 exact rT
theorem t_slices_IndexFunc_int64_int64_v1 (x0:List Int) (r:Int) (h:f_slices_IndexFunc_int64_int64_v1 x0 = some r):FnC Tryz.prog 88 [T.ro (lV x0),T.lit (.func (.func 109) #[] #[])] [I r] []:=by
 refine fB Tryz.func88 (fun St W w0 v => ?_)
 refine sR ?_
 refine a_as ?_
 refine rN ?_
 refine CW.seq ?_
 refine sR ?_
 refine a_mv ?_
 refine a_lenr ?_
 refine a_mv ?_
 refine rN ?_
 refine CW.block ?_
 obtain ⟨r4,hr4,h⟩:=bd h
 refine CW.lp (s:=0) (l1_slices_IndexFunc_int64_int64_v1 x0) (fun s1:Int => envL [(0,T.ro (lV x0)),(1,T.lit (.func (.func 109) #[] #[])),(7,I (x0.length:Int)),(8,I s1)]) (fun (x:Unit ⊕ Int) e E => match x with | (.inl r4) => e = .exit 0 ∧ Ghost ⟨St,W,w0,Tryz.f88.ntmps⟩ E (envL []) | (.inr r4) => e = .ret ∧ RetG ⟨St,W,w0,Tryz.f88.ntmps⟩ Tryz.prog Tryz.f88.results [T.ro (lV x0),T.lit (.func (.func 109) #[] #[])] [I r4] [] .ret E) (.has ⟨rfl,rfl,rfl,rfl,trivial⟩) (fun s1 x h => ?_) hr4 (fun e E hq => ?_)
 refine sR ?_
 refine a_lss ?_
 refine rN ?_
 refine CW.seq ?_
 refine cn h (fun hc h => ?_) (fun hc h => ?_)
 refine CW.skip ?_
 refine nA ?_
 refine CW.seq ?_
 refine CW.block ?_
 refine sR ?_
 refine a_mv ?_
 refine a_as ?_
 refine rN ?_
 refine sR ?_
 refine a_mv ?_
 refine a_mv ?_
 refine a_mv ?_
 obtain ⟨v1,hv1,h⟩:=bd h
 refine a_ixr ?_
 refine a_ldr ?_
 obtain ⟨r2,hr2,h⟩:=bd h
 refine oP (x_callV (xs:=[.tmp 15]) rfl Tryz.call109 (t_impl_solveRows_1 _ _ hr2) ⟨(agC _ rfl rfl rfl),trivial⟩ (resC (f:=B) inferInstance resN) rfl) ?_
 refine rN ?_
 refine cn h (fun hc h => ?_) (fun hc h => ?_)
 refine sR ?_
 refine a_mv ?_
 refine a_as ?_
 refine rN ?_
 refine CW.ret ?_
 refine rB ?_
 refine rA ?_
 exact eX h
 refine CW.skip ?_
 refine nB ?_
 refine nA ?_
 refine CW.region ?_
 obtain ⟨v3,hv3,h⟩:=bd h
 refine a_add ?_
 refine a_mv ?_
 refine RW.nil ?_
 exact eN h
 refine CW.exit ?_
 refine xA ?_
 exact eX h
 rcases r4 with r4 | r4
 obtain ⟨rfl,hg⟩:=hq
 refine xB ?_
 refine nA ?_
 refine CW.ghost hg ?_
 refine sR ?_
 refine a_as ?_
 refine rN ?_
 refine CW.ret ?_
 obtain rfl:=sI h
 exact rT
 obtain ⟨rfl,hq⟩:=hq
 refine rB ?_
 refine rA ?_
 obtain rfl:=sI h
 exact hq
theorem t_impl_leftKernelRows (x0:Int) (x1:List (List Int)) (x2:Int) (r:(List (List Int))) (h:f_impl_leftKernelRows x0 x1 x2 = some r):FnC Tryz.prog 138 [I x0,T.ro (lM x1),I x2] [lM r] []:=by
 refine fB Tryz.func138 (fun St W w0 v => ?_)
 refine sR ?_
 refine oP (x_nil 1 rfl) ?_
 refine rN ?_
 refine sR ?_
 refine oP (x_nil 1 rfl) ?_
 refine rN ?_
 refine CW.seq ?_
 refine sR ?_
 refine a_mv ?_
 refine a_mv ?_
 obtain ⟨r1,hr1,h⟩:=bd h
 refine cA Tryz.call108 (t_impl_withIdentity _ _ hr1) ?_
 obtain ⟨r2,hr2,h⟩:=bd h
 refine cA Tryz.call104 (t_impl_reduceRows _ _ _ hr2) ?_
 refine RW.ghost (Ghost.frz 13 (k:=1) (f:=lV) (g:=lV) r2 rfl inferInstance) ?_
 refine a_lenr ?_
 refine a_mv ?_
 refine rN ?_
 refine CW.block ?_
 obtain ⟨r10,hr10,h⟩:=bd h
 refine CW.lp (s:=([],0)) (l1_impl_leftKernelRows x2 r2) (fun s1:(List (List Int)) × Int => envL [(0,I x0),(2,I x2),(7,L 1 (Ro lV) s1.1),(13,T.ro (lM r2)),(14,I (r2.length:Int)),(15,I s1.2)]) (fun (r10:(List (List Int))) e E => e = .exit 0 ∧ Ghost ⟨St,W,w0,Tryz.f138.ntmps⟩ E (envL [(0,I x0),(7,L 1 (Ro lV) r10)])) (.has ⟨rfl,rfl,rfl,rfl,rfl,rfl,trivial⟩) (fun s1 x h => ?_) hr10 (fun e E hq => ?_)
 refine sR ?_
 refine a_lss ?_
 refine rN ?_
 refine CW.seq ?_
 refine cn h (fun hc h => ?_) (fun hc h => ?_)
 refine CW.skip ?_
 refine nA ?_
 refine CW.seq ?_
 refine CW.block ?_
 refine sR ?_
 obtain ⟨v3,hv3,h⟩:=bd h
 refine a_ixr ?_
 refine a_ldr ?_
 refine a_as ?_
 refine rN ?_
 refine sR ?_
 refine a_mv ?_
 refine a_mv ?_
 obtain ⟨v4,hv4,h⟩:=bd h
 refine oP (x_slr row_22 hv4 (locB rfl rfl) optN0 (optS (sliceO_hi hv4) rfl) rfl) ?_
 obtain ⟨r5,hr5,h⟩:=bd h
 refine cA Tryz.call86 (t_impl_isZero _ _ hr5) ?_
 refine rN ?_
 refine cn h (fun hc h => ?_) (fun hc h => ?_)
 refine CW.region ?_
 refine a_mv ?_
 refine a_mv ?_
 refine a_mv ?_
 obtain ⟨v6,hv6,h⟩:=bd h
 refine oP (x_slr row_22 hv6 (locB rfl rfl) (optS (sliceO_lo hv6) rfl) optN rfl) ?_
 refine oP (x_bs elt_23 [.tmp 26] [.slot 26 (T.ro (lV v6))] [v6] (Ro lV) ⟨.slot _ _,trivial⟩ (pkS rfl (clean_of trivial) rfl pkN) rfl rfl) ?_
 refine RW.ghost (Ghost.tr 23 7 _ rfl rfl (clean_of (cleanL (fun _ => trivial))) rfl) ?_
 obtain ⟨v7,hv7,h⟩:=bd h
 refine oP (x_appc (f:=(Ro lV)) elt_23 (fun _ => rfl) hv7 rfl (locB rfl rfl) rfl) ?_
 refine a_as ?_
 refine RW.ghost (Ghost.tr 7 28 _ rfl rfl (clean_of (cleanL (fun _ => trivial))) rfl) ?_
 refine RW.nil ?_
 refine nB ?_
 refine nA ?_
 refine CW.region ?_
 obtain ⟨v8,hv8,h⟩:=bd h
 refine a_add ?_
 refine a_mv ?_
 refine RW.nil ?_
 exact eN h
 refine CW.skip ?_
 refine nB ?_
 refine nA ?_
 refine CW.region ?_
 obtain ⟨v9,hv9,h⟩:=bd h
 refine a_add ?_
 refine a_mv ?_
 refine RW.nil ?_
 exact eN h
 refine CW.exit ?_
 refine xA ?_
 exact eX h
 obtain ⟨rfl,hg⟩:=hq
 refine xB ?_
 refine nA ?_
 refine CW.ghost hg ?_
 refine sR ?_
 refine a_mv ?_
 refine a_mv ?_
 obtain ⟨r11,hr11,h⟩:=bd h
 refine cA Tryz.call104 (t_impl_reduceRows _ _ _ hr11) ?_
 refine a_as ?_
 refine RW.ghost (Ghost.tr 6 32 _ rfl rfl (clean_of (cleanL (Enc.clean (f:=lV)))) rfl) ?_
 refine rN ?_
 refine CW.ret ?_
 obtain rfl:=sI h
 exact rT
theorem t_impl_leftKernel (x0:SMatrix) (r:SMatrix) (h:f_impl_leftKernel x0 = some r):FnC Tryz.prog 111 [qMatrix x0] [eSMatrix r] []:=by
 refine fB Tryz.func111 (fun St W w0 v => ?_)
 refine sR ?_
 refine a_box ?_
 refine a_alloc ?_
 refine rN ?_
 refine CW.seq ?_
 obtain ⟨r1,hr1,h⟩:=bd h
 refine CW.dk ?_
 refine d_fa [(1,_)] ?_
 refine d_ld [(3,_),(1,_)] ?_
 refine d_fa [(1,_)] ?_
 refine d_ld [(5,_),(1,_)] ?_
 refine d_lenr [(6,_)] ?_
 refine d_fa [(1,_)] ?_
 refine d_ld [(8,_),(1,_)] ?_
 refine d_fa [(1,_)] ?_
 refine d_ld [(10,_),(1,_)] ?_
 refine d_fa [(1,_)] ?_
 refine d_ld [(12,_),(1,_)] ?_
 refine dC [(9,_),(11,_),(13,_)] Tryz.call138 (t_impl_leftKernelRows _ _ _ _ hr1) ?_
 refine dG [(4,_),(7,_),(14,_)] [([(15,some (T.agg [I x0.Prime,I (x0.Rows.length:Int),L 1 lV r1])),(14,some (T.same 15 [2]))],[(15,0),(14,1)])] ⟨rfl,rfl,rfl,trivial⟩ (fun E h => IxOk.opE (x_build bld_40 [(0,.tmp 4),(1,.tmp 7),(2,.tmp 14)] [(0,.slot 4 (I x0.Prime)),(1,.slot 7 (I (x0.Rows.length:Int))),(2,.slot 14 (L 1 lV r1))] [.slot 4 (I x0.Prime),.slot 7 (I (x0.Rows.length:Int)),.slot 14 (L 1 lV r1)] (pkS h.1 (clean_of (Enc.clean (f:=I) _)) rfl (pkS h.2.1 (clean_of (Enc.clean (f:=I) _)) rfl (pkS h.2.2.1 (clean_of (cleanL (Enc.clean (f:=lV)))) rfl pkN))) (bqC (.slot _ _) (bqC (.slot _ _) (bqC (.slot _ _) bqN))) rfl) rfl) ?_
 refine dG [(2,_),(15,_)] [([(2,some (T.ptr (T.agg [I x0.Prime,I (x0.Rows.length:Int),L 1 lV r1]))),(15,some (T.agg [I x0.Prime,I (x0.Rows.length:Int),T.same 2 [2,0]]))],[(2,1),(15,1)])] ⟨rfl,rfl,trivial⟩ (fun E h => IxOk.opE (x_stp inf_40 rfl (locB h.1 rfl) h.1 rfl rfl h.2.1 (clean_of (cleanA ⟨(Enc.clean (f:=I) _),(Enc.clean (f:=I) _),(cleanL (Enc.clean (f:=lV))),trivial⟩)) rfl) rfl) ?_
 refine dNA mixedP ?_
 refine nA ?_
 refine CW.ret ?_
 obtain rfl:=sI h
 exact ⟨_,Ghost.refl,⟨.inl rfl,[(2,[0],T.agg [I x0.Prime,I (x0.Rows.length:Int),L 1 lV r1])],⟨⟨rfl,rfl,rfl,(var_40.h _ rfl rfl).h⟩,trivial⟩,rfl,(by simp),(by simp),trivial⟩⟩
theorem t_impl_solveRows (x0:SMatrix) (x1:List Int) (r:(List Int) × Bool) (h:f_impl_solveRows x0 x1 = some r):FnC Tryz.prog 69 [qMatrix x0,T.ro (lV x1)] [lV r.1,B r.2] []:=by
 refine fB Tryz.func69 (fun St W w0 v => ?_)
 refine sR ?_
 refine a_box ?_
 refine oP (x_nil 1 rfl) ?_
 refine a_as ?_
 refine rN ?_
 refine sR ?_
 refine a_fa ?_
 refine a_ld ?_
 refine a_as ?_
 refine rN ?_
 refine CW.seq ?_
 obtain ⟨r1,hr1,h⟩:=bd h
 obtain ⟨v2,hv2,h⟩:=bd h
 refine CW.dk ?_
 refine d_mv [(1,_)] ?_
 refine dC [(15,_)] Tryz.call90 (t_slices_Clone_int64_int64 _ _ hr1) ?_
 refine d_fa [(2,_)] ?_
 refine d_ld [(17,_),(2,_)] ?_
 refine d_lenr [(18,_)] ?_
 refine dG [(16,_),(19,_)] [([(20,some (L 1 I v2)),(16,some T.any)],[(20,0),(16,1)])] ⟨rfl,rfl,trivial⟩ (fun E h => IxOk.opE (x_appz (f:=I) (z:=0) elt_22 Tryz.underlying3 (rfl) hv2 h.1 h.2.1 rfl) rfl) ?_
 refine d_as [(20,_)] ?_
 refine dNA mixedP ?_
 refine nA ?_
 refine CW.ghost (Ghost.tr 7 20 _ rfl rfl (clean_of (cleanL (Enc.clean (f:=I)))) rfl) ?_
 refine CW.seq ?_
 refine CW.seq ?_
 obtain ⟨r3,hr3,h⟩:=bd h
 obtain ⟨r4,hr4,h⟩:=bd h
 refine CW.dk ?_
 refine d_fa [(2,_)] ?_
 refine d_ld [(21,_),(2,_)] ?_
 refine d_fa [(2,_)] ?_
 refine d_ld [(23,_),(2,_)] ?_
 refine dC [(24,_)] Tryz.call108 (t_impl_withIdentity _ _ hr3) ?_
 refine dC [(22,_),(25,_)] Tryz.call104 (t_impl_reduceRows _ _ _ hr4) ?_
 refine d_len [(26,_)] ?_
 refine d_mv [] ?_
 refine dNA mixedP ?_
 refine nA ?_
 refine CW.block ?_
 obtain ⟨r12,hr12,h⟩:=bd h
 refine CW.lp (s:=(v2,0)) (l1_impl_solveRows x0 r4) (fun s1:(List Int) × Int => envL [(2,T.ptr (qMatrix x0)),(6,I x0.Columns),(7,L 1 I s1.1),(26,L 1 lV r4),(27,I (r4.length:Int)),(28,I s1.2)]) (fun (r12:(List Int)) e E => e = .exit 0 ∧ Ghost ⟨St,W,w0,Tryz.f69.ntmps⟩ E (envL [(2,T.ptr (qMatrix x0)),(6,I x0.Columns),(7,L 1 I r12)])) (.has ⟨rfl,rfl,rfl,rfl,rfl,rfl,trivial⟩) (fun s1 x h => ?_) hr12 (fun e E hq => ?_)
 refine sR ?_
 refine a_lss ?_
 refine rN ?_
 refine CW.seq ?_
 refine cn h (fun hc h => ?_) (fun hc h => ?_)
 refine CW.skip ?_
 refine nA ?_
 refine CW.seq ?_
 refine CW.block ?_
 refine sR ?_
 obtain ⟨v5,hv5,h⟩:=bd h
 refine a_ix ?_
 refine a_ld ?_
 refine a_as ?_
 refine rN ?_
 refine sR ?_
 refine a_mv ?_
 obtain ⟨r6,hr6,h⟩:=bd h
 refine cA Tryz.call88 (t_slices_IndexFunc_int64_int64_v1 _ _ hr6) ?_
 refine a_as ?_
 refine rN ?_
 refine sR ?_
 refine a_mv ?_
 refine a_mv ?_
 refine a_lss ?_
 refine rN ?_
 refine cn h (fun hc h => ?_) (fun hc h => ?_)
 obtain ⟨v7,hv7,h⟩:=bd h
 obtain ⟨v8,hv8,h⟩:=bd h
 obtain ⟨r9,hr9,h⟩:=bd h
 refine CW.dk ?_
 refine d_mv [(7,_)] ?_
 refine d_mv [(9,_)] ?_
 refine d_mv [(7,_)] ?_
 refine d_mv [(10,_)] ?_
 refine d_ix [(39,_),(7,_),(40,_)] ?_
 refine d_ld [(41,_),(7,_)] ?_
 refine d_neg [(42,_)] ?_
 refine d_fa [(2,_)] ?_
 refine d_ld [(44,_),(2,_)] ?_
 refine dG [(37,_),(7,_),(38,_),(26,_),(43,_),(45,_)] [([(37,some (L 1 I s1.1)),(7,some (T.same 37 []))],[(37,1),(7,1)]),([(46,some (T.tup [])),(37,some (L 1 I r9))],[(46,0),(37,1)]),([(7,some (L 1 I r9)),(37,some (T.same 7 []))],[(7,1),(37,1)])] ⟨rfl,rfl,rfl,rfl,rfl,rfl,trivial⟩ (fun E h => IxOk.opE (x_callM (xs:=[.tmp 37,.tmp 38,.tmp 43,.tmp 45]) 0 37 7 [] Tryz.call91 (t_impl_addMultiple _ _ _ _ _ hr9) h.1 h.2.1 rfl (clean_of (cleanL (Enc.clean (f:=I)))) (clean_of (cleanL (Enc.clean (f:=I)))) (Enc.rofree (f:=L 1 I) _) (Enc.rofree (f:=L 1 I) _) ⟨(agLd rfl (clean_of (cleanL (Enc.clean (f:=I)))) (Enc.rofree (f:=L 1 I) _)),⟨(agM _ (keepL h.2.2.1) (cloS (keepLE h.2.2.2.1) (getc hv5 rfl) inferInstance) (argClS (keepLE h.2.2.2.1) (getc hv5 rfl) rfl rfl)),⟨(agM _ (keepL h.2.2.2.2.1) rfl rfl),⟨(agM _ (keepL h.2.2.2.2.2.1) rfl rfl),trivial⟩⟩⟩⟩ resN rfl rfl rfl rfl) rfl) ?_
 refine dNA mixedP ?_
 refine nB ?_
 refine nA ?_
 refine CW.region ?_
 obtain ⟨v10,hv10,h⟩:=bd h
 refine a_add ?_
 refine a_mv ?_
 refine RW.nil ?_
 exact eN h
 refine CW.skip ?_
 refine nB ?_
 refine nA ?_
 refine CW.region ?_
 obtain ⟨v11,hv11,h⟩:=bd h
 refine a_add ?_
 refine a_mv ?_
 refine RW.nil ?_
 exact eN h
 refine CW.exit ?_
 refine xA ?_
 exact eX h
 obtain ⟨rfl,hg⟩:=hq
 refine xB ?_
 refine nA ?_
 refine CW.ghost hg ?_
 refine CW.seq ?_
 refine sR ?_
 refine a_mv ?_
 refine a_mv ?_
 obtain ⟨v13,hv13,h⟩:=bd h
 refine oP (x_slo row_22 hv13 (locA rfl rfl rfl rfl) optN0 (optS (sliceO_hi hv13) rfl) rfl) ?_
 obtain ⟨r14,hr14,h⟩:=bd h
 refine oP (x_call (xs:=[.tmp 50]) Tryz.call86 (t_impl_isZero _ _ hr14) ⟨(agC _ rfl (cloSubV rfl rfl inferInstance hv13) rfl),trivial⟩ (resC (f:=B) inferInstance resN) rfl) ?_
 refine a_not ?_
 refine rN ?_
 refine cn h (fun hc h => ?_) (fun hc h => ?_)
 refine sR ?_
 refine oP (x_nil 1 rfl) ?_
 refine a_as ?_
 refine rN ?_
 refine CW.ret ?_
 refine rA ?_
 obtain rfl:=sI h
 exact rT
 refine CW.skip ?_
 refine nA ?_
 refine sR ?_
 refine a_mv ?_
 refine a_mv ?_
 obtain ⟨v15,hv15,h⟩:=bd h
 refine oP (x_slo row_22 hv15 (locA rfl rfl rfl rfl) (optS (sliceO_lo hv15) rfl) optN rfl) ?_
 refine a_as ?_
 refine rN ?_
 refine CW.seq ?_
 refine sR ?_
 refine a_mv ?_
 refine oP (x_lensub Tryz.underlying22 rfl rfl rfl rfl) ?_
 refine a_mv ?_
 refine rN ?_
 refine CW.block ?_
 obtain ⟨r23,hr23,h⟩:=bd h
 refine CW.lp (s:=(r12,0)) (l2_impl_solveRows x0 r12) (fun s3:(List Int) × Int => envL [(2,T.ptr (qMatrix x0)),(7,L 1 I s3.1),(11,T.sub 7 [] 1 ((x0.Columns:Int).toNat) ((r12.length:Int).toNat)),(57,I (((r12.length:Int).toNat - (x0.Columns:Int).toNat:Nat):Int)),(58,I s3.2)]) (fun (r23:(List Int)) e E => e = .exit 2 ∧ Ghost ⟨St,W,w0,Tryz.f69.ntmps⟩ E (envL [(2,T.ptr (qMatrix x0)),(7,L 1 I r23),(11,T.sub 7 [] 1 ((x0.Columns:Int).toNat) ((r12.length:Int).toNat))])) (.has ⟨rfl,rfl,rfl,rfl,rfl,trivial⟩) (fun s3 x h => ?_) hr23 (fun e E hq => ?_)
 refine sR ?_
 refine a_lss ?_
 refine rN ?_
 refine CW.seq ?_
 refine cn h (fun hc h => ?_) (fun hc h => ?_)
 refine CW.skip ?_
 refine nA ?_
 refine CW.seq ?_
 refine CW.block ?_
 refine sR ?_
 refine a_mv ?_
 refine a_as ?_
 refine rN ?_
 obtain ⟨v16,hv16,h⟩:=bd h
 obtain ⟨v17,hv17,h⟩:=bd h
 obtain ⟨v18,hv18,h⟩:=bd h
 obtain ⟨r19,hr19,h⟩:=bd h
 obtain ⟨v20,hv20,h⟩:=bd h
 obtain ⟨v21,hv21,h⟩:=bd h
 refine CW.dk ?_
 refine d_mv [(11,_)] ?_
 refine d_mv [(12,_)] ?_
 refine d_mv [(11,_)] ?_
 refine d_mv [(12,_)] ?_
 refine dG [(63,_),(7,_),(64,_)] [([(65,some (T.addr 7 [(x0.Columns + s3.2).toNat]))],[(65,0)])] ⟨rfl,rfl,rfl,trivial⟩ (fun E h => IxOk.opE (x_ixsub (f:=I) row_22 hv16 hv17 h.1 h.2.1 rfl h.2.2.1 rfl) rfl) ?_
 refine dG [(65,_),(7,_)] [([(66,some (I v17))],[(66,0)])] ⟨rfl,rfl,trivial⟩ (fun E h => IxOk.opE (x_ld (var_2.h _ rfl rfl) h.1 h.2.1 (getc (subix hv16 hv17) rfl) rfl) rfl) ?_
 refine d_neg [(66,_)] ?_
 refine d_fa [(2,_)] ?_
 refine d_ld [(68,_),(2,_)] ?_
 refine dC [(67,_),(69,_)] Tryz.call110 (t_impl_residue _ _ _ hr19) ?_
 refine dG [(61,_),(7,_),(62,_)] [([(71,some (T.addr 7 [(x0.Columns + s3.2).toNat]))],[(71,0)])] ⟨rfl,rfl,rfl,trivial⟩ (fun E h => IxOk.opE (x_ixsub (f:=I) row_22 hv20 hv21 h.1 h.2.1 rfl h.2.2.1 rfl) rfl) ?_
 refine dG [(71,_),(7,_),(70,_)] [([(7,some (L 1 I (s3.1.set (x0.Columns + s3.2).toNat r19)))],[(7,1)])] ⟨rfl,rfl,rfl,trivial⟩ (fun E h => IxOk.opE (x_st inf_2 rfl h.1 h.2.1 (getc (subix hv20 hv21) rfl) (setc (subix hv20 hv21) rfl) h.2.2.1 (clean_of (Enc.clean (f:=I) _)) rfl) rfl) ?_
 refine dNA mixedP ?_
 refine nB ?_
 refine nA ?_
 refine CW.region ?_
 obtain ⟨v22,hv22,h⟩:=bd h
 refine a_add ?_
 refine a_mv ?_
 refine RW.nil ?_
 exact eN h
 refine CW.exit ?_
 refine xA ?_
 exact eX h
 obtain ⟨rfl,hg⟩:=hq
 refine xB ?_
 refine nA ?_
 refine CW.ghost hg ?_
 refine sR ?_
 refine a_ldp ?_
 obtain ⟨r24,hr24,h⟩:=bd h
 refine cA Tryz.call111 (t_impl_leftKernel _ _ hr24) ?_
 refine a_mv ?_
 obtain ⟨v25,hv25,h⟩:=bd h
 obtain ⟨r26,hr26,h⟩:=bd h
 refine oP (x_call (xs:=[.tmp 74,.tmp 75]) Tryz.call51 (t_impl_remainderMod _ _ _ hr26) ⟨(agC _ rfl (cloA (cloC rfl (cloC rfl (cloC (cloO inferInstance) cloN)))) rfl),⟨(agC _ rfl (cloSubV rfl rfl inferInstance hv25) rfl),trivial⟩⟩ (resC (f:=lV) inferInstance resN) rfl) ?_
 refine a_as ?_
 refine a_as ?_
 refine RW.ghost (Ghost.tr 4 76 _ rfl rfl (clean_of (cleanL (Enc.clean (f:=I)))) rfl) ?_
 refine rN ?_
 refine CW.ret ?_
 obtain rfl:=sI h
 exact rT
theorem t_impl_InnerVector (x0:SPresentation) (x1:SModule) (x2:List (List Int)) (r:(List Int) × Int) (h:f_impl_InnerVector x0 x1 x2 = some r):FnC Tryz.prog 32 [qPresentation x0,qModule x1,T.ro (lM x2)] [lV r.1,I r.2] []:=by
 refine fB Tryz.func32 (fun St W w0 v => ?_)
 refine sR ?_
 refine a_box ?_
 refine a_box ?_
 refine oP (x_nil 1 rfl) ?_
 refine a_as ?_
 refine rN ?_
 refine CW.seq ?_
 refine sR ?_
 refine a_mv ?_
 obtain ⟨r1,hr1,h⟩:=bd h
 refine oP (x_call (xs:=[.tmp 3,.tmp 4,.tmp 11]) Tryz.call64 (t_impl_derivationCode _ _ _ _ hr1) ⟨(agC _ rfl (cloP rfl) rfl),⟨(agC _ rfl (cloP rfl) rfl),⟨(agC _ rfl rfl rfl),trivial⟩⟩⟩ (resC (f:=I) inferInstance resN) rfl) ?_
 refine a_as ?_
 refine rN ?_
 refine sR ?_
 refine a_mv ?_
 refine a_neq ?_
 refine rN ?_
 refine cn h (fun hc h => ?_) (fun hc h => ?_)
 refine sR ?_
 refine a_mv ?_
 refine oP (x_nil 1 rfl) ?_
 refine a_as ?_
 refine rN ?_
 refine CW.ret ?_
 refine rA ?_
 obtain rfl:=sI h
 exact rT
 refine CW.skip ?_
 refine nA ?_
 refine CW.seq ?_
 obtain ⟨r2,hr2,h⟩:=bd h
 obtain ⟨r3,hr3,h⟩:=bd h
 obtain ⟨r4,hr4,h⟩:=bd h
 obtain ⟨r5,hr5,h⟩:=bd h
 refine CW.dk ?_
 refine d_fa [(4,_)] ?_
 refine d_ld [(17,_),(4,_)] ?_
 refine dG [(3,_),(4,_)] [([(19,some (L 1 lV r2))],[(19,0)])] ⟨rfl,rfl,trivial⟩ (fun E h => IxOk.opE (x_call (xs:=[.tmp 3,.tmp 4]) Tryz.call66 (t_impl_innerRows _ _ _ hr2) ⟨(agC _ h.1 (cloP rfl) rfl),⟨(agC _ h.2.1 (cloP rfl) rfl),trivial⟩⟩ (resC (f:=lM) inferInstance resN) rfl) rfl) ?_
 refine dG [(19,L 1 lV r2),(18,I x1.Prime)] [([(19,some (T.ro (lM r2)))],[(19,1)]),([(20,some (qMatrix r3))],[(20,0)])] ⟨rfl,rfl,trivial⟩ (fun E h => IxOk.gh (Ghost.frzG 19 _ (t':=T.ro (lM r2)) h.1 (fzO inferInstance)) <| IxOk.opE (x_callF (xs:=[.tmp 18,.tmp 19]) Tryz.call70 (t_impl_wide _ _ _ hr3) (afC (keepO h.2.1) rfl (afC rfl rfl afN)) rfl ⟨(cleanA ⟨(Enc.clean (f:=I) _),(Enc.clean (f:=I) _),trivial,trivial⟩),trivial⟩ rfl rfl) rfl) ?_
 refine d_mv [(2,_)] ?_
 refine dC [(21,_)] Tryz.call68 (t_slices_Concat_int64_int64 _ _ hr4) ?_
 refine dC [(20,_),(22,_)] Tryz.call69 (t_impl_solveRows _ _ _ hr5) ?_
 refine d_mvT [(23,_)] ?_
 refine d_ext [(16,_)] ?_
 refine d_ext [(16,_)] ?_
 refine d_as [(24,_)] ?_
 refine d_as [(25,_)] ?_
 refine dNA mixedP ?_
 refine nA ?_
 refine CW.ghost (Ghost.trq 9 23 [0] rfl rfl rfl (clean_of (cleanL (Enc.clean (f:=I)))) rfl) ?_
 refine CW.seq ?_
 refine sR ?_
 refine a_mv ?_
 refine a_not ?_
 refine rN ?_
 refine cn h (fun hc h => ?_) (fun hc h => ?_)
 refine sR ?_
 refine oP (x_nil 1 rfl) ?_
 refine a_as ?_
 refine rN ?_
 refine CW.ret ?_
 refine rA ?_
 obtain rfl:=sI h
 exact rT
 refine CW.skip ?_
 refine nA ?_
 refine sR ?_
 refine a_mv ?_
 refine a_as ?_
 refine a_as ?_
 refine RW.ghost (Ghost.tr 6 9 _ rfl rfl (clean_of (cleanL (Enc.clean (f:=I)))) rfl) ?_
 refine rN ?_
 refine CW.ret ?_
 obtain rfl:=sI h
 exact rT
theorem t_laws_FnExactInnerVector (x0:SPresentation) (x1:SModule) (x2:List (List Int)) (r:Bool) (h:f_laws_FnExactInnerVector x0 x1 x2 = some r):FnC Tryz.prog 6 [qPresentation x0,qModule x1,T.ro (lM x2)] [B r] []:=by
 refine fB Tryz.func6 (fun St W w0 v => ?_)
 refine sR ?_
 refine a_box ?_
 refine a_box ?_
 refine a_as ?_
 refine rN ?_
 refine sR ?_
 refine a_as ?_
 refine rN ?_
 refine sR ?_
 refine a_ldp ?_
 refine a_mv ?_
 obtain ⟨r1,hr1,h⟩:=bd h
 refine cA Tryz.call7 (t_laws_szPresentation _ _ _ hr1) ?_
 refine a_as ?_
 refine rN ?_
 refine CW.seq ?_
 refine sR ?_
 refine a_mv ?_
 refine a_lss ?_
 refine rN ?_
 refine cn h (fun hc h => ?_) (fun hc h => ?_)
 refine sR ?_
 refine a_as ?_
 refine rN ?_
 refine CW.ret ?_
 refine rA ?_
 obtain rfl:=sI h
 exact rT
 refine CW.skip ?_
 refine nA ?_
 refine sR ?_
 refine a_ldp ?_
 refine a_mv ?_
 obtain ⟨r2,hr2,h⟩:=bd h
 refine cA Tryz.call8 (t_laws_szModule _ _ _ hr2) ?_
 refine a_as ?_
 refine rN ?_
 refine CW.seq ?_
 refine sR ?_
 refine a_mv ?_
 refine a_lss ?_
 refine rN ?_
 refine cn h (fun hc h => ?_) (fun hc h => ?_)
 refine sR ?_
 refine a_as ?_
 refine rN ?_
 refine CW.ret ?_
 refine rA ?_
 obtain rfl:=sI h
 exact rT
 refine CW.skip ?_
 refine nA ?_
 refine sR ?_
 refine a_mv ?_
 refine a_mv ?_
 obtain ⟨r3,hr3,h⟩:=bd h
 refine cA Tryz.call24 (t_laws_szInt64SS _ _ _ hr3) ?_
 refine a_as ?_
 refine rN ?_
 refine CW.seq ?_
 refine sR ?_
 refine a_mv ?_
 refine a_lss ?_
 refine rN ?_
 refine cn h (fun hc h => ?_) (fun hc h => ?_)
 refine sR ?_
 refine a_as ?_
 refine rN ?_
 refine CW.ret ?_
 refine rA ?_
 obtain rfl:=sI h
 exact rT
 refine CW.skip ?_
 refine nA ?_
 refine CW.seq ?_
 obtain ⟨r4,hr4,h⟩:=bd h
 obtain ⟨r5,hr5,h⟩:=bd h
 obtain ⟨r6,hr6,h⟩:=bd h
 obtain ⟨r7,hr7,h⟩:=bd h
 refine CW.dk ?_
 refine d_ldp [(3,_)] ?_
 refine dG [(36,_)] [([(37,some (eSPresentation r4))],[(37,0)])] ⟨rfl,trivial⟩ (fun E h => IxOk.opE (x_call (xs:=[.tmp 36]) Tryz.call11 (t_laws_toPresentation _ _ hr4) ⟨(agC _ h.1 rfl rfl),trivial⟩ (resC (f:=eSPresentation) inferInstance resN) rfl) rfl) ?_
 refine d_ldp [(4,_)] ?_
 refine dG [(38,_)] [([(39,some (eSModule r5))],[(39,0)])] ⟨rfl,trivial⟩ (fun E h => IxOk.opE (x_call (xs:=[.tmp 38]) Tryz.call12 (t_laws_toModule _ _ hr5) ⟨(agC _ h.1 rfl rfl),trivial⟩ (resC (f:=eSModule) inferInstance resN) rfl) rfl) ?_
 refine d_mv [(2,_)] ?_
 refine dG [(40,_)] [([(41,some (L 1 lV r6))],[(41,0)])] ⟨rfl,trivial⟩ (fun E h => IxOk.opE (x_call (xs:=[.tmp 40]) Tryz.call26 (t_laws_toInt64SS _ _ hr6) ⟨(agC _ h.1 rfl rfl),trivial⟩ (resC (f:=lM) inferInstance resN) rfl) rfl) ?_
 refine dG [(37,_),(39,_),(41,_)] [([(42,some (T.tup [L 1 I r7.1,I r7.2]))],[(42,0)])] ⟨rfl,rfl,rfl,trivial⟩ (fun E h => IxOk.opE (x_call (xs:=[.tmp 37,.tmp 39,.tmp 41]) Tryz.call31 (t_spec_InnerVector _ _ _ _ hr7) ⟨(agC _ h.1 (cloA (cloC (cloO inferInstance) (cloC (cloO inferInstance) (cloC (cloO inferInstance) cloN)))) rfl),⟨(agC _ h.2.1 (cloA (cloC rfl (cloC rfl (cloC (cloO inferInstance) cloN)))) rfl),⟨(agC _ h.2.2.1 (cloO inferInstance) rfl),trivial⟩⟩⟩ (resC (f:=lV) inferInstance (resC (f:=I) inferInstance resN)) rfl) rfl) ?_
 refine d_mvT [(42,_)] ?_
 refine d_ext [(35,_)] ?_
 refine d_ext [(35,_)] ?_
 refine d_as [(43,_)] ?_
 refine d_as [(44,_)] ?_
 refine dNA mixedP ?_
 refine nA ?_
 refine CW.ghost (Ghost.trq 8 42 [0] rfl rfl rfl (clean_of (cleanL (Enc.clean (f:=I)))) rfl) ?_
 refine CW.seq ?_
 refine CW.to [(2,T.ro (lM x2)),(3,T.ptr (qPresentation x0)),(4,T.ptr (qModule x1)),(8,L 1 I r7.1),(9,I r7.2)] ⟨rfl,rfl,rfl,rfl,rfl,trivial⟩ ?_
 refine CW.region ?_
 refine a_ldp ?_
 obtain ⟨r8,hr8,h⟩:=bd h
 refine oP (x_call (xs:=[.tmp 45]) Tryz.call11 (t_laws_toPresentation _ _ hr8) ⟨(agC _ rfl rfl rfl),trivial⟩ (resC (f:=eSPresentation) inferInstance resN) rfl) ?_
 refine a_alloc ?_
 refine oP (x_stp inf_37 rfl (locB rfl rfl) rfl rfl rfl rfl (clean_of (cleanA ⟨(cleanL (Enc.clean (f:=I))),(cleanL (Enc.clean (f:=lV))),(cleanL (Enc.clean (f:=lM))),trivial⟩)) rfl) ?_
 refine rN ?_
 refine sR ?_
 refine a_ldp ?_
 obtain ⟨r9,hr9,h⟩:=bd h
 refine oP (x_call (xs:=[.tmp 47]) Tryz.call12 (t_laws_toModule _ _ hr9) ⟨(agC _ rfl rfl rfl),trivial⟩ (resC (f:=eSModule) inferInstance resN) rfl) ?_
 refine a_alloc ?_
 refine oP (x_stp inf_34 rfl (locB rfl rfl) rfl rfl rfl rfl (clean_of (cleanA ⟨(Enc.clean (f:=I) _),(Enc.clean (f:=I) _),(cleanL (Enc.clean (f:=lM))),trivial⟩)) rfl) ?_
 refine rN ?_
 refine sR ?_
 refine a_mv ?_
 obtain ⟨r10,hr10,h⟩:=bd h
 refine oP (x_call (xs:=[.tmp 49]) Tryz.call26 (t_laws_toInt64SS _ _ hr10) ⟨(agC _ rfl rfl rfl),trivial⟩ (resC (f:=lM) inferInstance resN) rfl) ?_
 refine a_as ?_
 refine RW.ghost (Ghost.tr 12 50 _ rfl rfl (clean_of (cleanL (Enc.clean (f:=lV)))) rfl) ?_
 refine rN ?_
 refine sR ?_
 refine a_ldp ?_
 refine a_ldp ?_
 refine a_mv ?_
 obtain ⟨r11,hr11,h⟩:=bd h
 refine oP (x_call (xs:=[.tmp 52,.tmp 53,.tmp 54]) Tryz.call32 (t_impl_InnerVector _ _ _ _ hr11) ⟨(agC _ rfl (cloA (cloC (cloS rfl rfl inferInstance) (cloC (cloS rfl rfl inferInstance) (cloC (cloS rfl rfl inferInstance) cloN)))) rfl),⟨(agC _ rfl (cloA (cloC rfl (cloC rfl (cloC (cloS rfl rfl inferInstance) cloN)))) rfl),⟨(agC _ rfl (cloS rfl rfl inferInstance) rfl),trivial⟩⟩⟩ (resC (f:=lV) inferInstance (resC (f:=I) inferInstance resN)) rfl) ?_
 refine a_mvT ?_
 refine a_ext ?_
 refine a_ext ?_
 refine a_as ?_
 refine a_as ?_
 refine RW.ghost (Ghost.trq 13 55 [0] rfl rfl rfl (clean_of (cleanL (Enc.clean (f:=I)))) rfl) ?_
 refine rN ?_
 refine CW.seq ?_
 refine sR ?_
 refine a_mv ?_
 refine a_mv ?_
 obtain ⟨r12,hr12,h⟩:=bd h
 refine oP (x_call (xs:=[.tmp 58,.tmp 59]) Tryz.call33 (t_laws_eqInt64S _ _ _ hr12) ⟨(agC _ rfl (cloS rfl rfl inferInstance) rfl),⟨(agC _ rfl (cloS rfl rfl inferInstance) rfl),trivial⟩⟩ (resC (f:=B) inferInstance resN) rfl) ?_
 refine a_not ?_
 refine a_mv ?_
 refine RW.cases 62 _ rfl (fun hc => ?_) (fun hc => ?_)
 have h:=cT hc h
 refine sk2 ?_
 refine sk2 ?_
 refine sk2 ?_
 refine a_pick ?_
 refine rN ?_
 refine CW.condT rfl ?_
 refine CW.seq ?_
 refine CW.to [] trivial ?_
 refine CW.region ?_
 refine a_as ?_
 refine rN ?_
 refine CW.ret ?_
 refine rA ?_
 obtain rfl:=sI h
 exact rT
 have h:=cF hc h
 refine g_mv ?_
 refine g_mv ?_
 refine g_neq ?_
 refine a_pick ?_
 refine rN ?_
 refine cn h (fun hc h => ?_) (fun hc h => ?_)
 refine CW.seq ?_
 refine CW.to [] trivial ?_
 refine CW.region ?_
 refine a_as ?_
 refine rN ?_
 refine CW.ret ?_
 refine rA ?_
 obtain rfl:=sI h
 exact rT
 refine CW.skip ?_
 refine nA ?_
 refine CW.seq ?_
 refine CW.seq ?_
 refine CW.to [(2,T.ro (lM x2)),(3,T.ptr (qPresentation x0)),(4,T.ptr (qModule x1)),(8,L 1 I r7.1),(9,I r7.2),(10,T.ptr (eSPresentation r8)),(11,T.ptr (eSModule r9)),(12,L 1 lV r10),(13,L 1 I r11.1),(14,I r11.2)] ⟨rfl,rfl,rfl,rfl,rfl,rfl,rfl,rfl,rfl,rfl,trivial⟩ ?_
 obtain ⟨r13,hr13,h⟩:=bd h
 obtain ⟨r14,hr14,h⟩:=bd h
 refine CW.dk ?_
 refine d_ldp [(10,_)] ?_
 refine d_ldp [(3,_)] ?_
 refine dG [(68,_)] [([(69,some (eSPresentation r13))],[(69,0)])] ⟨rfl,trivial⟩ (fun E h => IxOk.opE (x_call (xs:=[.tmp 68]) Tryz.call11 (t_laws_toPresentation _ _ hr13) ⟨(agC _ h.1 rfl rfl),trivial⟩ (resC (f:=eSPresentation) inferInstance resN) rfl) rfl) ?_
 refine dG [(67,_),(10,_),(69,_)] [([(70,some (B r14))],[(70,0)])] ⟨rfl,rfl,rfl,trivial⟩ (fun E h => IxOk.opE (x_call (xs:=[.tmp 67,.tmp 69]) Tryz.call16 (t_laws_eqPresentation _ _ _ hr14) ⟨(agC _ h.1 (cloA (cloC (cloS h.2.1 rfl inferInstance) (cloC (cloS h.2.1 rfl inferInstance) (cloC (cloS h.2.1 rfl inferInstance) cloN)))) rfl),⟨(agC _ h.2.2.1 (cloA (cloC (cloO inferInstance) (cloC (cloO inferInstance) (cloC (cloO inferInstance) cloN)))) rfl),trivial⟩⟩ (resC (f:=B) inferInstance resN) rfl) rfl) ?_
 refine d_not [(70,_)] ?_
 refine dNA mixedP ?_
 refine nA ?_
 refine cn h (fun hc h => ?_) (fun hc h => ?_)
 refine sR ?_
 refine a_as ?_
 refine rN ?_
 refine CW.ret ?_
 refine rA ?_
 obtain rfl:=sI h
 exact rT
 refine CW.skip ?_
 refine nA ?_
 refine CW.seq ?_
 refine CW.seq ?_
 obtain ⟨r15,hr15,h⟩:=bd h
 obtain ⟨r16,hr16,h⟩:=bd h
 refine CW.dk ?_
 refine d_ldp [(11,_)] ?_
 refine d_ldp [(4,_)] ?_
 refine dG [(73,_)] [([(74,some (eSModule r15))],[(74,0)])] ⟨rfl,trivial⟩ (fun E h => IxOk.opE (x_call (xs:=[.tmp 73]) Tryz.call12 (t_laws_toModule _ _ hr15) ⟨(agC _ h.1 rfl rfl),trivial⟩ (resC (f:=eSModule) inferInstance resN) rfl) rfl) ?_
 refine dG [(72,_),(11,_),(74,_)] [([(75,some (B r16))],[(75,0)])] ⟨rfl,rfl,rfl,trivial⟩ (fun E h => IxOk.opE (x_call (xs:=[.tmp 72,.tmp 74]) Tryz.call15 (t_laws_eqModule _ _ _ hr16) ⟨(agC _ h.1 (cloA (cloC rfl (cloC rfl (cloC (cloS h.2.1 rfl inferInstance) cloN)))) rfl),⟨(agC _ h.2.2.1 (cloA (cloC rfl (cloC rfl (cloC (cloO inferInstance) cloN)))) rfl),trivial⟩⟩ (resC (f:=B) inferInstance resN) rfl) rfl) ?_
 refine d_not [(75,_)] ?_
 refine dNA mixedP ?_
 refine nA ?_
 refine cn h (fun hc h => ?_) (fun hc h => ?_)
 refine sR ?_
 refine a_as ?_
 refine rN ?_
 refine CW.ret ?_
 refine rA ?_
 obtain rfl:=sI h
 exact rT
 refine CW.skip ?_
 refine nA ?_
 refine CW.seq ?_
 refine sR ?_
 refine a_mv ?_
 refine a_mv ?_
 obtain ⟨r17,hr17,h⟩:=bd h
 refine oP (x_call (xs:=[.tmp 78]) Tryz.call26 (t_laws_toInt64SS _ _ hr17) ⟨(agC _ rfl rfl rfl),trivial⟩ (resC (f:=lM) inferInstance resN) rfl) ?_
 obtain ⟨r18,hr18,h⟩:=bd h
 refine cA Tryz.call28 (t_laws_eqInt64SS _ _ _ hr18) ?_
 refine a_not ?_
 refine rN ?_
 refine cn h (fun hc h => ?_) (fun hc h => ?_)
 refine sR ?_
 refine a_as ?_
 refine rN ?_
 refine CW.ret ?_
 refine rA ?_
 obtain rfl:=sI h
 exact rT
 refine CW.skip ?_
 refine nA ?_
 refine sR ?_
 refine a_as ?_
 refine rN ?_
 refine sR ?_
 refine a_ldp ?_
 refine a_mv ?_
 obtain ⟨r19,hr19,h⟩:=bd h
 refine oP (x_callA (xs:=[.tmp 82,.tmp 83]) 0 82 10 [(0,[0,0]),(1,[1,0]),(2,[2,0])] 2 Tryz.call18 (t_laws_markPresentation _ _ _ hr19) (.cons 0 [0,0] _ _ _ _ _ rfl rfl rfl rfl (clean_of (cleanL (Enc.clean (f:=I)))) rfl rfl rfl (.cons 1 [1,0] _ _ _ _ _ rfl rfl rfl rfl (clean_of (cleanL (Enc.clean (f:=lV)))) rfl rfl rfl (.cons 2 [2,0] _ _ _ _ _ rfl rfl rfl rfl (clean_of (cleanL (Enc.clean (f:=lM)))) rfl rfl rfl (.nil _)))) rfl (Enc.clean (f:=eSPresentation) _) (Enc.rofree (f:=eSPresentation) _) ⟨(agLd rfl (Enc.clean (f:=eSPresentation) _) (Enc.rofree (f:=eSPresentation) _)),⟨(agM _ rfl rfl rfl),trivial⟩⟩ (resC (f:=I) inferInstance resN) (.cons 0 [0,0] _ _ _ _ _ _ rfl rfl rfl rfl (clean_of (cleanL (Enc.clean (f:=I)))) rfl rfl rfl (.cons 1 [1,0] _ _ _ _ _ _ rfl rfl rfl rfl (clean_of (cleanL (Enc.clean (f:=lV)))) rfl rfl rfl (.cons 2 [2,0] _ _ _ _ _ _ rfl rfl rfl rfl (clean_of (cleanL (Enc.clean (f:=lM)))) rfl rfl rfl (.nil _)))) rfl rfl rfl) ?_
 refine a_as ?_
 refine rN ?_
 refine sR ?_
 refine a_ldp ?_
 refine a_mv ?_
 obtain ⟨r20,hr20,h⟩:=bd h
 refine oP (x_callA (xs:=[.tmp 85,.tmp 86]) 0 85 11 [(2,[2,0])] 2 Tryz.call19 (t_laws_markModule _ _ _ hr20) (.cons 2 [2,0] _ _ _ _ _ rfl rfl rfl rfl (clean_of (cleanL (Enc.clean (f:=lM)))) rfl rfl rfl (.nil _)) rfl (Enc.clean (f:=eSModule) _) (Enc.rofree (f:=eSModule) _) ⟨(agLd rfl (Enc.clean (f:=eSModule) _) (Enc.rofree (f:=eSModule) _)),⟨(agM _ rfl rfl rfl),trivial⟩⟩ (resC (f:=I) inferInstance resN) (.cons 2 [2,0] _ _ _ _ _ _ rfl rfl rfl rfl (clean_of (cleanL (Enc.clean (f:=lM)))) rfl rfl rfl (.nil _)) rfl rfl rfl) ?_
 refine a_as ?_
 refine rN ?_
 refine CW.seq ?_
 refine CW.to [(2,T.ro (lM x2)),(3,T.ptr (qPresentation x0)),(4,T.ptr (qModule x1)),(8,L 1 I r7.1),(9,I r7.2),(12,L 1 lV r10),(13,L 1 I r11.1),(14,I r11.2),(15,I r20.1)] ⟨rfl,rfl,rfl,rfl,rfl,rfl,rfl,rfl,rfl,trivial⟩ ?_
 refine CW.region ?_
 refine a_mv ?_
 refine a_mv ?_
 obtain ⟨r21,hr21,h⟩:=bd h
 refine oP (x_callM (xs:=[.tmp 88,.tmp 89]) 0 88 12 [] Tryz.call29 (t_laws_markInt64SS _ _ _ hr21) rfl rfl rfl (clean_of (cleanL (Enc.clean (f:=lV)))) (clean_of (cleanL (Enc.clean (f:=lV)))) (Enc.rofree (f:=L 1 lV) _) (Enc.rofree (f:=L 1 lV) _) ⟨(agLd rfl (clean_of (cleanL (Enc.clean (f:=lV)))) (Enc.rofree (f:=L 1 lV) _)),⟨(agM _ rfl rfl rfl),trivial⟩⟩ (resC (f:=I) inferInstance resN) rfl rfl rfl rfl) ?_
 refine a_as ?_
 refine rN ?_
 refine CW.seq ?_
 refine sR ?_
 refine a_mv ?_
 refine a_lss ?_
 refine a_mv ?_
 refine RW.cases 93 _ rfl (fun hc => ?_) (fun hc => ?_)
 have h:=cT hc h
 refine sk2 ?_
 refine sk2 ?_
 refine sk2 ?_
 refine sk2 ?_
 refine a_pick ?_
 refine a_mv ?_
 refine sk2 ?_
 refine sk2 ?_
 refine sk2 ?_
 refine a_pick ?_
 refine rN ?_
 refine CW.condT rfl ?_
 refine sR ?_
 refine a_as ?_
 refine rN ?_
 refine CW.ret ?_
 refine rA ?_
 obtain rfl:=sI h
 exact rT
 have h:=cF hc h
 refine g_mv ?_
 refine g_mv ?_
 obtain ⟨r22,hr22,h⟩:=bd h
 refine RW.cons (IxOk.guard 2 false 93 (x_call (xs:=[.tmp 94,.tmp 95]) Tryz.call33 (t_laws_eqInt64S _ _ _ hr22) ⟨(agC _ rfl (cloS rfl rfl inferInstance) rfl),⟨(agC _ rfl (cloS rfl rfl inferInstance) rfl),trivial⟩⟩ (resC (f:=B) inferInstance resN) rfl)) ?_
 refine g_not ?_
 refine a_pick ?_
 refine a_mv ?_
 refine RW.cases 99 _ rfl (fun hc => ?_) (fun hc => ?_)
 have h:=cT hc h
 refine sk2 ?_
 refine sk2 ?_
 refine sk2 ?_
 refine a_pick ?_
 refine rN ?_
 refine CW.condT rfl ?_
 refine sR ?_
 refine a_as ?_
 refine rN ?_
 refine CW.ret ?_
 refine rA ?_
 obtain rfl:=sI h
 exact rT
 have h:=cF hc h
 refine g_mv ?_
 refine g_mv ?_
 refine g_neq ?_
 refine a_pick ?_
 refine rN ?_
 refine cn h (fun hc h => ?_) (fun hc h => ?_)
 refine sR ?_
 refine a_as ?_
 refine rN ?_
 refine CW.ret ?_
 refine rA ?_
 obtain rfl:=sI h
 exact rT
 refine CW.skip ?_
 refine nA ?_
 refine sR ?_
 refine a_as ?_
 refine rN ?_
 refine sR ?_
 refine a_mv ?_
 refine a_mv ?_
 obtain ⟨r23,hr23,h⟩:=bd h
 refine oP (x_callM (xs:=[.tmp 104,.tmp 105]) 0 104 13 [] Tryz.call34 (t_laws_markInt64S _ _ _ hr23) rfl rfl rfl (clean_of (cleanL (Enc.clean (f:=I)))) (clean_of (cleanL (Enc.clean (f:=I)))) (Enc.rofree (f:=L 1 I) _) (Enc.rofree (f:=L 1 I) _) ⟨(agLd rfl (clean_of (cleanL (Enc.clean (f:=I)))) (Enc.rofree (f:=L 1 I) _)),⟨(agM _ rfl rfl rfl),trivial⟩⟩ (resC (f:=I) inferInstance resN) rfl rfl rfl rfl) ?_
 refine a_as ?_
 refine rN ?_
 refine sR ?_
 refine a_as ?_
 refine rN ?_
 refine sR ?_
 refine a_mv ?_
 refine a_mv ?_
 obtain ⟨r24,hr24,h⟩:=bd h
 refine oP (x_call (xs:=[.tmp 107,.tmp 108]) Tryz.call35 (t_laws_heldInt64S _ _ _ hr24) ⟨(agC _ rfl (cloS rfl rfl inferInstance) rfl),⟨(agC _ rfl rfl rfl),trivial⟩⟩ (resC (f:=I) inferInstance resN) rfl) ?_
 refine a_as ?_
 refine rN ?_
 refine CW.seq ?_
 refine CW.seq ?_
 refine CW.to [(2,T.ro (lM x2)),(3,T.ptr (qPresentation x0)),(4,T.ptr (qModule x1)),(8,L 1 I r7.1),(9,I r7.2),(13,L 1 I r23.2),(16,I r23.1),(17,I r24)] ⟨rfl,rfl,rfl,rfl,rfl,rfl,rfl,rfl,trivial⟩ ?_
 refine CW.region ?_
 refine a_mv ?_
 refine a_lss ?_
 refine rN ?_
 refine cn h (fun hc h => ?_) (fun hc h => ?_)
 refine sR ?_
 refine a_as ?_
 refine rN ?_
 refine CW.ret ?_
 refine rA ?_
 obtain rfl:=sI h
 exact rT
 refine CW.skip ?_
 refine nA ?_
 refine CW.seq ?_
 refine sR ?_
 refine a_mv ?_
 refine a_mv ?_
 refine a_neq ?_
 refine rN ?_
 refine cn h (fun hc h => ?_) (fun hc h => ?_)
 refine sR ?_
 refine a_as ?_
 refine rN ?_
 refine CW.ret ?_
 refine rA ?_
 obtain rfl:=sI h
 exact rT
 refine CW.skip ?_
 refine nA ?_
 refine CW.seq ?_
 obtain ⟨r25,hr25,h⟩:=bd h
 obtain ⟨r26,hr26,h⟩:=bd h
 obtain ⟨r27,hr27,h⟩:=bd h
 obtain ⟨r28,hr28,h⟩:=bd h
 refine CW.dk ?_
 refine d_ldp [(3,_)] ?_
 refine dG [(116,_)] [([(117,some (eSPresentation r25))],[(117,0)])] ⟨rfl,trivial⟩ (fun E h => IxOk.opE (x_call (xs:=[.tmp 116]) Tryz.call11 (t_laws_toPresentation _ _ hr25) ⟨(agC _ h.1 rfl rfl),trivial⟩ (resC (f:=eSPresentation) inferInstance resN) rfl) rfl) ?_
 refine d_ldp [(4,_)] ?_
 refine dG [(118,_)] [([(119,some (eSModule r26))],[(119,0)])] ⟨rfl,trivial⟩ (fun E h => IxOk.opE (x_call (xs:=[.tmp 118]) Tryz.call12 (t_laws_toModule _ _ hr26) ⟨(agC _ h.1 rfl rfl),trivial⟩ (resC (f:=eSModule) inferInstance resN) rfl) rfl) ?_
 refine d_mv [(2,_)] ?_
 refine dG [(120,_)] [([(121,some (L 1 lV r27))],[(121,0)])] ⟨rfl,trivial⟩ (fun E h => IxOk.opE (x_call (xs:=[.tmp 120]) Tryz.call26 (t_laws_toInt64SS _ _ hr27) ⟨(agC _ h.1 rfl rfl),trivial⟩ (resC (f:=lM) inferInstance resN) rfl) rfl) ?_
 refine dG [(117,_),(119,_),(121,_)] [([(122,some (T.tup [L 1 I r28.1,I r28.2]))],[(122,0)])] ⟨rfl,rfl,rfl,trivial⟩ (fun E h => IxOk.opE (x_call (xs:=[.tmp 117,.tmp 119,.tmp 121]) Tryz.call32 (t_impl_InnerVector _ _ _ _ hr28) ⟨(agC _ h.1 (cloA (cloC (cloO inferInstance) (cloC (cloO inferInstance) (cloC (cloO inferInstance) cloN)))) rfl),⟨(agC _ h.2.1 (cloA (cloC rfl (cloC rfl (cloC (cloO inferInstance) cloN)))) rfl),⟨(agC _ h.2.2.1 (cloO inferInstance) rfl),trivial⟩⟩⟩ (resC (f:=lV) inferInstance (resC (f:=I) inferInstance resN)) rfl) rfl) ?_
 refine d_mvT [(122,_)] ?_
 refine d_ext [(115,_)] ?_
 refine d_ext [(115,_)] ?_
 refine d_as [(123,_)] ?_
 refine d_as [(124,_)] ?_
 refine dNA mixedP ?_
 refine nA ?_
 refine CW.ghost (Ghost.trq 18 122 [0] rfl rfl rfl (clean_of (cleanL (Enc.clean (f:=I)))) rfl) ?_
 refine CW.seq ?_
 refine sR ?_
 refine a_mv ?_
 refine a_mv ?_
 obtain ⟨r29,hr29,h⟩:=bd h
 refine cA Tryz.call33 (t_laws_eqInt64S _ _ _ hr29) ?_
 refine a_not ?_
 refine a_mv ?_
 refine RW.cases 129 _ rfl (fun hc => ?_) (fun hc => ?_)
 have h:=cT hc h
 refine sk2 ?_
 refine sk2 ?_
 refine sk2 ?_
 refine a_pick ?_
 refine rN ?_
 refine CW.condT rfl ?_
 refine CW.seq ?_
 refine CW.to [] trivial ?_
 refine CW.region ?_
 refine a_as ?_
 refine rN ?_
 refine CW.ret ?_
 refine rA ?_
 obtain rfl:=sI h
 exact rT
 have h:=cF hc h
 refine g_mv ?_
 refine g_mv ?_
 refine g_neq ?_
 refine a_pick ?_
 refine rN ?_
 refine cn h (fun hc h => ?_) (fun hc h => ?_)
 refine CW.seq ?_
 refine CW.to [] trivial ?_
 refine CW.region ?_
 refine a_as ?_
 refine rN ?_
 refine CW.ret ?_
 refine rA ?_
 obtain rfl:=sI h
 exact rT
 refine CW.skip ?_
 refine nA ?_
 refine CW.seq ?_
 refine CW.to [(13,L 1 I r23.2),(16,I r23.1)] ⟨rfl,rfl,trivial⟩ ?_
 refine CW.region ?_
 refine a_as ?_
 refine rN ?_
 refine sR ?_
 refine a_mv ?_
 refine a_mv ?_
 obtain ⟨r30,hr30,h⟩:=bd h
 refine oP (x_call (xs:=[.tmp 134,.tmp 135]) Tryz.call35 (t_laws_heldInt64S _ _ _ hr30) ⟨(agC _ rfl (cloS rfl rfl inferInstance) rfl),⟨(agC _ rfl rfl rfl),trivial⟩⟩ (resC (f:=I) inferInstance resN) rfl) ?_
 refine a_as ?_
 refine rN ?_
 refine CW.seq ?_
 refine sR ?_
 refine a_mv ?_
 refine a_lss ?_
 refine rN ?_
 refine cn h (fun hc h => ?_) (fun hc h => ?_)
 refine sR ?_
 refine a_as ?_
 refine rN ?_
 refine CW.ret ?_
 refine rA ?_
 obtain rfl:=sI h
 exact rT
 refine CW.skip ?_
 refine nA ?_
 refine CW.seq ?_
 refine sR ?_
 refine a_mv ?_
 refine a_mv ?_
 refine a_neq ?_
 refine rN ?_
 refine cn h (fun hc h => ?_) (fun hc h => ?_)
 refine sR ?_
 refine a_as ?_
 refine rN ?_
 refine CW.ret ?_
 refine rA ?_
 obtain rfl:=sI h
 exact rT
 refine CW.skip ?_
 refine nA ?_
 refine sR ?_
 refine a_as ?_
 refine rN ?_
 refine CW.ret ?_
 obtain rfl:=sI h
 exact rT
end Go.Wk
