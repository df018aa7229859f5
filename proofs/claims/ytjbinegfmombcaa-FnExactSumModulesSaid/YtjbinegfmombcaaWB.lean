/- The program and the reference return the same sums of modules, for all arguments (FnExactSumModules). This file is a part of the proof. -/
import Derived.Test.YtjbinegfmombcaaWA
namespace Go.Wk
open Go Go.Proofs Go.Ab
set_option maxRecDepth 100000
theorem t_slices_Repeat_int64_int64 (x0 : List Int) (x1 : Int) (r : (List Int)) (h : f_slices_Repeat_int64_int64 x0 x1 = some r) : FnC Try.prog 132 [T.ro (lV x0), I x1] [lV r] [] := by
 refine fB Try.func132 (fun St W w0 v => ?_)
 refine sR ?_
 refine oP (x_nil 1 rfl) ?_
 refine rN ?_
 refine CW.seq ?_
 refine sR ?_
 refine a_mv ?_
 refine a_lss ?_
 refine rN ?_
 refine cn h (fun hc h => ?_) (fun hc h => ?_)
 ·refine CW.region ?_
  cases h
 ·refine CW.skip ?_
  refine nA ?_
  refine sR ?_
  refine a_mv ?_
  refine a_lenr ?_
  refine oP (x_convU Try.underlying3 Try.underlying163 rfl rfl) ?_
  refine a_mv ?_
  refine oP (x_convU Try.underlying3 Try.underlying163 rfl rfl) ?_
  obtain ⟨r1, hr1, h⟩ := bd h
  refine cA Try.call153 (t_math_bits_Mul _ _ _ hr1) ?_
  refine a_mvT ?_
  refine a_ext ?_
  refine a_ext ?_
  refine a_as ?_
  refine a_as ?_
  refine rN ?_
  refine CW.seq ?_
  refine sR ?_
  refine a_mv ?_
  refine oP (x_gtrU rfl rfl rfl) ?_
  refine a_mv ?_
  refine RW.cases 23 _ rfl (fun hc => ?_) (fun hc => ?_)
  ·have h := cT hc h
   refine sk2 ?_
   refine sk2 ?_
   refine a_pick ?_
   refine rN ?_
   refine CW.condT rfl ?_
   refine CW.region ?_
   cases h
  ·have h := cF hc h
   refine g_mv ?_
   refine RW.cons (IxOk.guard 2 false 23 (x_gtrU rfl rfl rfl)) ?_
   refine a_pick ?_
   refine rN ?_
   refine cn h (fun hc h => ?_) (fun hc h => ?_)
   ·refine CW.region ?_
    cases h
   ·refine CW.skip ?_
    refine nA ?_
    refine sR ?_
    refine a_mv ?_
    refine oP (x_convU Try.underlying163 Try.underlying3 rfl rfl) ?_
    obtain ⟨m2, hm2, h⟩ := bd h
    refine oP (x_makeL (f := I) (z := 0) elt_22 (rfl) hm2 rfl rfl rfl) ?_
    refine a_as ?_
    refine RW.ghost (Ghost.tr 7 30 _ rfl rfl (clean_of (cleanL (Enc.clean (f := I)))) rfl) ?_
    refine rN ?_
    refine CW.seq ?_
    refine CW.to [(0, T.ro (lV x0)), (7, L 1 I (List.replicate m2 (0 : Int)))] ⟨rfl, rfl, trivial⟩ ?_
    refine CW.region ?_
    refine a_mv ?_
    refine a_mv ?_
    refine oP (x_copyI elt_22 rfl (fun _ => (DstOf.same rfl rfl)) (fun _ => (SrcOf.ro (locB rfl rfl))) (Nat.zero_le _) (Nat.le_refl _) rfl) ?_
    refine a_as ?_
    refine rN ?_
    refine CW.seq ?_
    refine CW.block ?_
    obtain ⟨r6, hr6, h⟩ := bd h
    refine CW.lp (s := (splice (List.replicate m2 (0 : Int)) 0 (x0.take (((List.replicate m2 (0 : Int)).length) - 0)), ((min x0.length (((List.replicate m2 (0 : Int)).length) - 0) : Nat) : Int))) l1_slices_Repeat_int64_int64 (fun s1 : (List Int) × Int => envL [(7, L 1 I s1.1), (8, I s1.2)]) (fun (r6 : (List Int)) e E => e = .exit 0 ∧ Ghost ⟨St, W, w0, Try.f132.ntmps⟩ E (envL [(7, L 1 I r6)])) (.has ⟨rfl, rfl, trivial⟩) (fun s1 x h => ?_) hr6 (fun e E hq => ?_)
    ·refine CW.seq ?_
     refine sR ?_
     refine a_mv ?_
     refine a_mv ?_
     refine a_len ?_
     refine a_lss ?_
     refine rN ?_
     refine cn h (fun hc h => ?_) (fun hc h => ?_)
     ·refine CW.skip ?_
      refine nA ?_
      refine CW.block ?_
      obtain ⟨v3, hv3, h⟩ := bd h
      obtain ⟨v4, hv4, h⟩ := bd h
      obtain ⟨v5, hv5, h⟩ := bd h
      refine CW.dk ?_
      refine d_mv [(8, _)] ?_
      refine d_mv [(7, _)] ?_
      refine d_mv [(8, _)] ?_
      refine dG [(39, _), (7, _), (40, _)] [([(41, some (T.sub 7 [] 1 ((s1.2 : Int).toNat) ((s1.1.length : Int).toNat)))], [(41, 0)])] ⟨rfl, rfl, rfl, trivial⟩ (fun E h => IxOk.opE (x_slo row_22 hv3 (locA h.1 h.2.1 rfl rfl) (optS (sliceO_lo hv3) h.2.2.1) optN rfl) rfl) ?_
      refine d_mv [(7, _)] ?_
      refine d_mv [(8, _)] ?_
      refine dG [(42, _), (7, _), (43, _)] [([(44, some (T.sub 7 [] 1 ((0 : Int).toNat) ((s1.2 : Int).toNat)))], [(44, 0)])] ⟨rfl, rfl, rfl, trivial⟩ (fun E h => IxOk.opE (x_slo row_22 hv4 (locA h.1 h.2.1 rfl rfl) optN0 (optS (sliceO_hi hv4) h.2.2.1) rfl) rfl) ?_
      refine dG [(41, _), (7, _), (44, _)] [([(7, some (L 1 I (splice s1.1 ((s1.2 : Int).toNat) (v4.take (((s1.1.length : Int).toNat) - ((s1.2 : Int).toNat))))))], [(7, 1)]), ([(45, some (I ((min v4.length (((s1.1.length : Int).toNat) - ((s1.2 : Int).toNat)) : Nat) : Int)))], [(45, 0)])] ⟨rfl, rfl, rfl, trivial⟩ (fun E h => IxOk.opE (x_copyI elt_22 h.2.1 (fun _ => (DstOf.sub h.1)) (fun _ => (SrcOf.sub h.2.2.1 h.2.1 rfl hv4)) (sliceO_le hv3) (sliceO_ub hv3) rfl) rfl) ?_
      refine d_add [(38, _), (45, _)] ?_
      refine d_as [(46, _)] ?_
      refine dNA mixedP ?_
      refine nB ?_
      exact eN h
     ·refine CW.exit ?_
      refine xA ?_
      exact eX h
    ·obtain ⟨rfl, hg⟩ := hq
     refine xB ?_
     refine nA ?_
     refine CW.ghost hg ?_
     refine sR ?_
     refine a_mv ?_
     refine a_as ?_
     refine RW.ghost (Ghost.tr 4 7 _ rfl rfl (clean_of (cleanL (Enc.clean (f := I)))) rfl) ?_
     refine rN ?_
     refine CW.ret ?_
     obtain rfl := sI h
     exact rT
theorem t_impl_normalWord (x0 : List Int) (r : (List Int)) (h : f_impl_normalWord x0 = some r) : FnC Try.prog 133 [T.ro (lV x0)] [lV r] [] := by
 refine fB Try.func133 (fun St W w0 v => ?_)
 refine sR ?_
 refine oP (x_nil 1 rfl) ?_
 refine rN ?_
 refine sR ?_
 refine oP (x_nil 1 rfl) ?_
 refine rN ?_
 refine CW.seq ?_
 refine sR ?_
 refine a_mv ?_
 refine a_lenr ?_
 refine a_mv ?_
 refine rN ?_
 refine CW.block ?_
 obtain ⟨r7, hr7, h⟩ := bd h
 refine CW.lp (s := ([], 0)) (l2_impl_normalWord x0) (fun s5 : (List Int) × Int => envL [(3, L 1 I s5.1), (6, T.ro (lV x0)), (7, I (x0.length : Int)), (8, I s5.2)]) (fun (r7 : (List Int)) e E => e = .exit 0 ∧ Ghost ⟨St, W, w0, Try.f133.ntmps⟩ E (envL [(3, L 1 I r7)])) (.has ⟨rfl, rfl, rfl, rfl, trivial⟩) (fun s5 x h => ?_) hr7 (fun e E hq => ?_)
 ·refine sR ?_
  refine a_lss ?_
  refine rN ?_
  refine CW.seq ?_
  refine cn h (fun hc h => ?_) (fun hc h => ?_)
  ·refine CW.skip ?_
   refine nA ?_
   refine CW.seq ?_
   refine CW.block ?_
   refine sR ?_
   refine a_mv ?_
   obtain ⟨v1, hv1, h⟩ := bd h
   refine a_ixr ?_
   refine a_ldr ?_
   refine a_as ?_
   refine a_as ?_
   refine rN ?_
   refine sR ?_
   refine a_mv ?_
   refine a_mv ?_
   refine rN ?_
   refine CW.block ?_
   obtain ⟨r5, hr5, h⟩ := bd h
   refine CW.lp (s := (s5.1, 0)) (l1_impl_normalWord s5 v1) (fun s6 : (List Int) × Int => envL [(3, L 1 I s6.1), (4, I s5.2), (6, T.ro (lV x0)), (7, I (x0.length : Int)), (8, I s5.2), (13, I v1), (14, I s6.2)]) (fun (r5 : (List Int)) e E => e = .exit 2 ∧ Ghost ⟨St, W, w0, Try.f133.ntmps⟩ E (envL [(3, L 1 I r5), (6, T.ro (lV x0)), (7, I (x0.length : Int)), (8, I s5.2)])) (.has ⟨rfl, rfl, rfl, rfl, rfl, rfl, rfl, trivial⟩) (fun s6 x h => ?_) hr5 (fun e E hq => ?_)
   ·refine sR ?_
    refine a_lss ?_
    refine rN ?_
    refine CW.seq ?_
    refine cn h (fun hc h => ?_) (fun hc h => ?_)
    ·refine CW.skip ?_
     refine nA ?_
     refine CW.seq ?_
     refine CW.block ?_
     refine CW.region ?_
     refine a_mv ?_
     refine a_mv ?_
     obtain ⟨v2, hv2, h⟩ := bd h
     refine oP (x_add hv2 rfl rfl rfl) ?_
     refine oP (x_bs elt_22 [.tmp 18] [.slot 18 (I v2)] [v2] I ⟨.slot _ _, trivial⟩ (pkS rfl (clean_of (Enc.clean (f := I) _)) rfl pkN) rfl rfl) ?_
     refine RW.ghost (Ghost.tr 16 3 _ rfl rfl (clean_of (cleanL (Enc.clean (f := I)))) rfl) ?_
     obtain ⟨v3, hv3, h⟩ := bd h
     refine oP (x_appc (f := I) elt_22 (fun _ => rfl) hv3 rfl (locB rfl rfl) rfl) ?_
     refine a_as ?_
     refine RW.ghost (Ghost.tr 3 20 _ rfl rfl (clean_of (cleanL (Enc.clean (f := I)))) rfl) ?_
     refine RW.nil ?_
     refine nB ?_
     refine nA ?_
     refine CW.region ?_
     obtain ⟨v4, hv4, h⟩ := bd h
     refine oP (x_add hv4 rfl rfl rfl) ?_
     refine a_mv ?_
     refine RW.nil ?_
     exact eN h
    ·refine CW.exit ?_
     refine xA ?_
     exact eX h
   ·obtain ⟨rfl, hg⟩ := hq
    refine xB ?_
    refine nB ?_
    refine nA ?_
    refine CW.ghost hg ?_
    refine CW.region ?_
    obtain ⟨v6, hv6, h⟩ := bd h
    refine a_add ?_
    refine a_mv ?_
    refine RW.nil ?_
    exact eN h
  ·refine CW.exit ?_
   refine xA ?_
   exact eX h
 ·obtain ⟨rfl, hg⟩ := hq
  refine xB ?_
  refine nA ?_
  refine CW.ghost hg ?_
  refine sR ?_
  refine a_mv ?_
  refine a_as ?_
  refine RW.ghost (Ghost.tr 2 3 _ rfl rfl (clean_of (cleanL (Enc.clean (f := I)))) rfl) ?_
  refine rN ?_
  refine CW.ret ?_
  obtain rfl := sI h
  exact rT
theorem t_impl_relationSides (x0 : SPresentation) (r : (List ((List Int) × (List Int)))) (h : f_impl_relationSides x0 = some r) : FnC Try.prog 96 [T.ro ((Pt eSPresentation) x0)] [(L 2 (A2 lV)) r] [] := by
 refine fB Try.func96 (fun St W w0 v => ?_)
 refine sR ?_
 refine oP (x_nil 2 rfl) ?_
 refine rN ?_
 refine sR ?_
 refine oP (x_nil 2 rfl) ?_
 refine rN ?_
 refine CW.seq ?_
 refine sR ?_
 refine a_mv ?_
 refine a_nilc ?_
 refine a_far ?_
 refine a_ldr ?_
 refine a_lenr ?_
 refine a_mv ?_
 refine rN ?_
 refine CW.block ?_
 obtain ⟨r8, hr8, h⟩ := bd h
 refine CW.lp (s := ([], 0)) (l1_impl_relationSides x0) (fun s1 : (List ((List Int) × (List Int))) × Int => envL [(0, T.ro ((Pt eSPresentation) x0)), (3, L 2 (A2 lV) s1.1), (14, T.ro (lV x0.Orders)), (15, I (x0.Orders.length : Int)), (16, I s1.2)]) (fun (r8 : (List ((List Int) × (List Int)))) e E => e = .exit 0 ∧ Ghost ⟨St, W, w0, Try.f96.ntmps⟩ E (envL [(0, T.ro ((Pt eSPresentation) x0)), (3, L 2 (A2 lV) r8)])) (.has ⟨rfl, rfl, rfl, rfl, rfl, trivial⟩) (fun s1 x h => ?_) hr8 (fun e E hq => ?_)
 ·refine sR ?_
  refine a_lss ?_
  refine rN ?_
  refine CW.seq ?_
  refine cn h (fun hc h => ?_) (fun hc h => ?_)
  ·refine CW.skip ?_
   refine nA ?_
   refine CW.seq ?_
   refine CW.block ?_
   refine sR ?_
   refine a_mv ?_
   obtain ⟨v1, hv1, h⟩ := bd h
   refine a_ixr ?_
   refine a_ldr ?_
   refine a_as ?_
   refine a_as ?_
   refine rN ?_
   obtain ⟨v2, hv2, h⟩ := bd h
   obtain ⟨r3, hr3, h⟩ := bd h
   obtain ⟨v4, hv4, h⟩ := bd h
   obtain ⟨r5, hr5, h⟩ := bd h
   obtain ⟨v6, hv6, h⟩ := bd h
   refine CW.dk ?_
   refine d_mv [(3, _)] ?_
   refine d_mv [(4, _)] ?_
   refine dG [(22, _)] [([(23, some (I v2))], [(23, 0)])] ⟨rfl, trivial⟩ (fun E h => IxOk.opE (x_add hv2 h.1 rfl rfl) rfl) ?_
   refine dG [(23, _)] [([(24, some (L 1 I [v2]))], [(24, 0)])] ⟨rfl, trivial⟩ (fun E h => IxOk.opE (x_bs elt_22 [.tmp 23] [.slot 23 (I v2)] [v2] I ⟨.slot _ _, trivial⟩ (pkS h.1 (clean_of (Enc.clean (f := I) _)) rfl pkN) rfl rfl) rfl) ?_
   refine d_mv [(5, _)] ?_
   refine dC [(24, _), (25, _)] Try.call132 (t_slices_Repeat_int64_int64 _ _ _ hr3) ?_
   refine d_mv [(0, _)] ?_
   refine d_nilc [(27, _)] ?_
   refine d_far [(28, _)] ?_
   refine d_ldr [(29, _)] ?_
   refine d_mv [(4, _)] ?_
   refine d_ixr [(30, _), (31, _)] ?_
   refine d_ldr [(32, _)] ?_
   refine dC [(33, _)] Try.call133 (t_impl_normalWord _ _ hr5) ?_
   refine dG [(26, _), (34, _)] [([(35, some (T.agg [L 1 I r3, L 1 I r5])), (26, some (T.same 35 [0])), (34, some (T.same 35 [1]))], [(35, 0), (26, 1), (34, 1)])] ⟨rfl, rfl, trivial⟩ (fun E h => IxOk.opE (x_build bld_121 [(0, .tmp 26), (1, .tmp 34)] [(0, .slot 26 (L 1 I r3)), (1, .slot 34 (L 1 I r5))] [.slot 26 (L 1 I r3), .slot 34 (L 1 I r5)] (pkS h.1 (clean_of (cleanL (Enc.clean (f := I)))) rfl (pkS h.2.1 (clean_of (cleanL (Enc.clean (f := I)))) rfl pkN)) (bqC (.slot _ _) (bqC (.slot _ _) bqN)) rfl) rfl) ?_
   refine dG [(35, _)] [([(36, some (L 2 (A2 lV) [(r3, r5)])), (35, some (T.agg [T.same 36 [0, 0], T.same 36 [1, 0]]))], [(36, 0), (35, 1)])] ⟨rfl, trivial⟩ (fun E h => IxOk.opE (x_bs elt_119 [.tmp 35] [.slot 35 (T.agg [L 1 I r3, L 1 I r5])] [(r3, r5)] (A2 lV) ⟨.slot _ _, trivial⟩ (pkS h.1 (clean_of (cleanA ⟨(cleanL (Enc.clean (f := I))), (cleanL (Enc.clean (f := I))), trivial⟩)) rfl pkN) rfl rfl) rfl) ?_
   refine dG [(21, _), (3, _), (36, _)] [([(21, some (L 2 (A2 lV) s1.1)), (3, some (T.same 21 []))], [(21, 1), (3, 1)]), ([(37, some (L 2 (A2 lV) v6)), (21, some T.any), (36, some T.any)], [(37, 0), (21, 1), (36, 1)])] ⟨rfl, rfl, rfl, trivial⟩ (fun E h => IxOk.gh (Ghost.tr 21 3 _ h.1 h.2.1 (clean_of (cleanL (Enc.clean (f := (A2 lV))))) rfl) <| IxOk.opE (x_appm (f := (A2 lV)) elt_119 hv6 rfl (keepE h.2.2.1) rfl) rfl) ?_
   refine d_as [(37, _)] ?_
   refine dNA mixedP ?_
   refine nB ?_
   refine nA ?_
   refine CW.to [(0, T.ro ((Pt eSPresentation) x0)), (3, T.same 37 []), (14, T.ro (lV x0.Orders)), (15, I (x0.Orders.length : Int)), (16, I s1.2), (37, L 2 (A2 lV) v6)] ⟨rfl, rfl, rfl, rfl, rfl, rfl, trivial⟩ ?_
   refine CW.region ?_
   obtain ⟨v7, hv7, h⟩ := bd h
   refine oP (x_add hv7 rfl rfl rfl) ?_
   refine a_mv ?_
   refine RW.ghost (Ghost.tr 3 37 _ rfl rfl (clean_of (cleanL (Enc.clean (f := (A2 lV))))) rfl) ?_
   refine RW.nil ?_
   exact eN h
  ·refine CW.exit ?_
   refine xA ?_
   exact eX h
 ·obtain ⟨rfl, hg⟩ := hq
  refine xB ?_
  refine nA ?_
  refine CW.ghost hg ?_
  refine CW.seq ?_
  refine sR ?_
  refine a_mv ?_
  refine a_nilc ?_
  refine a_far ?_
  refine a_ldr ?_
  refine a_lenr ?_
  refine a_mv ?_
  refine rN ?_
  refine CW.block ?_
  obtain ⟨r20, hr20, h⟩ := bd h
  refine CW.lp (s := (r8, 0)) (l3_impl_relationSides x0) (fun s7 : (List ((List Int) × (List Int))) × Int => envL [(0, T.ro ((Pt eSPresentation) x0)), (3, L 2 (A2 lV) s7.1), (43, I (x0.Orders.length : Int)), (44, I s7.2)]) (fun (r20 : (List ((List Int) × (List Int)))) e E => e = .exit 2 ∧ Ghost ⟨St, W, w0, Try.f96.ntmps⟩ E (envL [(3, L 2 (A2 lV) r20)])) (.has ⟨rfl, rfl, rfl, rfl, trivial⟩) (fun s7 x h => ?_) hr20 (fun e E hq => ?_)
  ·refine sR ?_
   refine a_lss ?_
   refine rN ?_
   refine CW.seq ?_
   refine cn h (fun hc h => ?_) (fun hc h => ?_)
   ·refine CW.skip ?_
    refine nA ?_
    refine CW.seq ?_
    refine CW.block ?_
    refine sR ?_
    refine a_mv ?_
    refine a_as ?_
    refine rN ?_
    refine sR ?_
    refine a_mv ?_
    refine a_nilc ?_
    refine a_far ?_
    refine a_ldr ?_
    refine a_mv ?_
    obtain ⟨v9, hv9, h⟩ := bd h
    refine a_ixr ?_
    refine a_ldr ?_
    refine a_lenr ?_
    refine a_mv ?_
    refine rN ?_
    refine CW.block ?_
    obtain ⟨r18, hr18, h⟩ := bd h
    refine CW.lp (s := (s7.1, 0)) (l2_impl_relationSides s7 v9) (fun s8 : (List ((List Int) × (List Int))) × Int => envL [(0, T.ro ((Pt eSPresentation) x0)), (3, L 2 (A2 lV) s8.1), (6, I s7.2), (43, I (x0.Orders.length : Int)), (44, I s7.2), (53, T.ro (lM v9)), (54, I (v9.length : Int)), (55, I s8.2)]) (fun (r18 : (List ((List Int) × (List Int)))) e E => e = .exit 4 ∧ Ghost ⟨St, W, w0, Try.f96.ntmps⟩ E (envL [(0, T.ro ((Pt eSPresentation) x0)), (3, L 2 (A2 lV) r18), (43, I (x0.Orders.length : Int)), (44, I s7.2)])) (.has ⟨rfl, rfl, rfl, rfl, rfl, rfl, rfl, rfl, trivial⟩) (fun s8 x h => ?_) hr18 (fun e E hq => ?_)
    ·refine sR ?_
     refine a_lss ?_
     refine rN ?_
     refine CW.seq ?_
     refine cn h (fun hc h => ?_) (fun hc h => ?_)
     ·refine CW.skip ?_
      refine nA ?_
      refine CW.seq ?_
      refine CW.block ?_
      refine sR ?_
      refine a_mv ?_
      obtain ⟨v10, hv10, h⟩ := bd h
      refine a_ixr ?_
      refine a_ldr ?_
      refine a_as ?_
      refine a_as ?_
      refine rN ?_
      refine sR ?_
      refine a_mv ?_
      obtain ⟨v11, hv11, h⟩ := bd h
      refine oP (x_add hv11 rfl rfl rfl) ?_
      refine a_mv ?_
      refine a_mv ?_
      obtain ⟨v12, hv12, h⟩ := bd h
      refine a_add ?_
      obtain ⟨v13, hv13, h⟩ := bd h
      refine a_add ?_
      refine a_as ?_
      refine a_as ?_
      refine rN ?_
      refine CW.region ?_
      refine a_mv ?_
      refine a_mv ?_
      refine a_mv ?_
      refine oP (x_bs elt_22 [.tmp 67, .tmp 68] [.slot 67 (I v13), .slot 68 (I v11)] [v13, v11] I ⟨.slot _ _, .slot _ _, trivial⟩ (pkS rfl (clean_of (Enc.clean (f := I) _)) rfl (pkS rfl (clean_of (Enc.clean (f := I) _)) rfl pkN)) rfl rfl) ?_
      refine a_mv ?_
      refine oP (x_bs elt_22 [.tmp 70] [.slot 70 (I v11)] [v11] I ⟨.slot _ _, trivial⟩ (pkS rfl (clean_of (Enc.clean (f := I) _)) rfl pkN) rfl rfl) ?_
      refine a_mv ?_
      obtain ⟨r14, hr14, h⟩ := bd h
      refine cA Try.call133 (t_impl_normalWord _ _ hr14) ?_
      obtain ⟨v15, hv15, h⟩ := bd h
      refine oP (x_appc (f := I) elt_22 (fun _ => rfl) hv15 rfl (locB rfl rfl) rfl) ?_
      refine oP (x_build bld_121 [(0, .tmp 69), (1, .tmp 74)] [(0, .slot 69 (L 1 I [v13, v11])), (1, .slot 74 (L 1 I v15))] [.slot 69 (L 1 I [v13, v11]), .slot 74 (L 1 I v15)] (pkS rfl (clean_of (cleanL (Enc.clean (f := I)))) rfl (pkS rfl (clean_of (cleanL (Enc.clean (f := I)))) rfl pkN)) (bqC (.slot _ _) (bqC (.slot _ _) bqN)) rfl) ?_
      refine oP (x_bs elt_119 [.tmp 75] [.slot 75 (T.agg [L 1 I [v13, v11], L 1 I v15])] [([v13, v11], v15)] (A2 lV) ⟨.slot _ _, trivial⟩ (pkS rfl (clean_of (cleanA ⟨(cleanL (Enc.clean (f := I))), (cleanL (Enc.clean (f := I))), trivial⟩)) rfl pkN) rfl rfl) ?_
      refine RW.ghost (Ghost.tr 66 3 _ rfl rfl (clean_of (cleanL (Enc.clean (f := (A2 lV))))) rfl) ?_
      obtain ⟨v16, hv16, h⟩ := bd h
      refine oP (x_appm (f := (A2 lV)) elt_119 hv16 rfl rfl rfl) ?_
      refine a_as ?_
      refine RW.ghost (Ghost.tr 3 77 _ rfl rfl (clean_of (cleanL (Enc.clean (f := (A2 lV))))) rfl) ?_
      refine RW.nil ?_
      refine nB ?_
      refine nA ?_
      refine CW.to [(0, T.ro ((Pt eSPresentation) x0)), (3, L 2 (A2 lV) v16), (6, I s7.2), (43, I (x0.Orders.length : Int)), (44, I s7.2), (53, T.ro (lM v9)), (54, I (v9.length : Int)), (55, I s8.2)] ⟨rfl, rfl, rfl, rfl, rfl, rfl, rfl, rfl, trivial⟩ ?_
      refine CW.region ?_
      obtain ⟨v17, hv17, h⟩ := bd h
      refine oP (x_add hv17 rfl rfl rfl) ?_
      refine a_mv ?_
      refine RW.nil ?_
      exact eN h
     ·refine CW.exit ?_
      refine xA ?_
      exact eX h
    ·obtain ⟨rfl, hg⟩ := hq
     refine xB ?_
     refine nB ?_
     refine nA ?_
     refine CW.ghost hg ?_
     refine CW.region ?_
     obtain ⟨v19, hv19, h⟩ := bd h
     refine a_add ?_
     refine a_mv ?_
     refine RW.nil ?_
     exact eN h
   ·refine CW.exit ?_
    refine xA ?_
    exact eX h
  ·obtain ⟨rfl, hg⟩ := hq
   refine xB ?_
   refine nA ?_
   refine CW.ghost hg ?_
   refine sR ?_
   refine a_mv ?_
   refine a_as ?_
   refine RW.ghost (Ghost.tr 2 3 _ rfl rfl (clean_of (cleanL (Enc.clean (f := (A2 lV))))) rfl) ?_
   refine rN ?_
   refine CW.ret ?_
   obtain rfl := sI h
   exact rT
theorem t_impl_identityOf (x0 : Int) (x1 : Int) (r : SMatrix) (h : f_impl_identityOf x0 x1 = some r) : FnC Try.prog 136 [I x0, I x1] [eSMatrix r] [] := by
 refine fB Try.func136 (fun St W w0 v => ?_)
 refine sR ?_
 refine a_alloc ?_
 refine rN ?_
 refine sR ?_
 refine a_mv ?_
 refine a_mv ?_
 refine oP (x_build bld_76 [(0, .tmp 8), (1, .tmp 9)] [(0, .slot 8 (I x0)), (1, .slot 9 (I x1))] [.slot 8 (I x0), .slot 9 (I x1), .zero (L 1 lV [])] (pkS rfl (clean_of (Enc.clean (f := I) _)) rfl (pkS rfl (clean_of (Enc.clean (f := I) _)) rfl (pkZ rfl pkN))) (bqC (.slot _ _) (bqC (.slot _ _) bqN)) rfl) ?_
 refine a_alloc ?_
 refine oP (x_stp inf_76 rfl (locB rfl rfl) rfl rfl rfl rfl (clean_of (cleanA ⟨(Enc.clean (f := I) _), (Enc.clean (f := I) _), trivial, trivial⟩)) rfl) ?_
 refine rN ?_
 refine CW.seq ?_
 refine sR ?_
 refine a_mv ?_
 refine a_mv ?_
 refine rN ?_
 refine CW.block ?_
 obtain ⟨r5, hr5, h⟩ := bd h
 refine CW.lp (s := ([], 0)) (l1_impl_identityOf x1) (fun s1 : (List (List Int)) × Int => envL [(1, I x1), (4, T.ptr (T.agg [I 0, I 0, L 1 lV []])), (5, T.ptr (T.agg [I x0, I x1, L 1 lV s1.1])), (11, I x1), (12, I s1.2)]) (fun (r5 : (List (List Int))) e E => e = .exit 0 ∧ Ghost ⟨St, W, w0, Try.f136.ntmps⟩ E (envL [(4, T.ptr (T.agg [I 0, I 0, L 1 lV []])), (5, T.ptr (T.agg [I x0, I x1, L 1 lV r5]))])) (.has ⟨rfl, rfl, rfl, rfl, rfl, trivial⟩) (fun s1 x h => ?_) hr5 (fun e E hq => ?_)
 ·refine sR ?_
  refine a_lss ?_
  refine rN ?_
  refine CW.seq ?_
  refine cn h (fun hc h => ?_) (fun hc h => ?_)
  ·refine CW.skip ?_
   refine nA ?_
   refine CW.seq ?_
   refine CW.block ?_
   refine sR ?_
   refine a_mv ?_
   refine a_as ?_
   refine rN ?_
   refine sR ?_
   refine a_mv ?_
   obtain ⟨m1, hm1, h⟩ := bd h
   refine oP (x_makeL (f := I) (z := 0) elt_22 (rfl) hm1 rfl rfl rfl) ?_
   refine a_as ?_
   refine RW.ghost (Ghost.tr 7 16 _ rfl rfl (clean_of (cleanL (Enc.clean (f := I)))) rfl) ?_
   refine rN ?_
   refine sR ?_
   refine a_mv ?_
   refine a_mv ?_
   obtain ⟨v2, hv2, h⟩ := bd h
   refine a_ix ?_
   refine oP (x_stcT inf_2 rfl rfl rfl (getc hv2 rfl) (setc hv2 rfl) rfl rfl) ?_
   refine rN ?_
   refine CW.region ?_
   refine a_fa ?_
   refine a_ld ?_
   refine a_mv ?_
   refine RW.ghost (Ghost.tr 22 7 _ rfl rfl (clean_of (cleanL (Enc.clean (f := I)))) rfl) ?_
   refine oP (x_bs elt_23 [.tmp 22] [.slot 22 (L 1 I ((List.replicate m1 (0 : Int)).set s1.2.toNat 1))] [(List.replicate m1 (0 : Int)).set s1.2.toNat 1] lV ⟨.slot _ _, trivial⟩ (pkS rfl (clean_of (cleanL (Enc.clean (f := I)))) rfl pkN) rfl rfl) ?_
   refine RW.ghost (Ghost.trq 21 5 [2, 0] rfl rfl rfl (clean_of (cleanL (Enc.clean (f := lV)))) rfl) ?_
   obtain ⟨v3, hv3, h⟩ := bd h
   refine oP (x_appm (f := lV) elt_23 hv3 rfl rfl rfl) ?_
   refine a_fa ?_
   refine oP (x_st inf_23 rfl rfl rfl rfl rfl rfl (clean_of (cleanL (Enc.clean (f := lV)))) rfl) ?_
   refine RW.nil ?_
   refine nB ?_
   refine nA ?_
   refine CW.region ?_
   obtain ⟨v4, hv4, h⟩ := bd h
   refine a_add ?_
   refine a_mv ?_
   refine RW.nil ?_
   exact eN h
  ·refine CW.exit ?_
   refine xA ?_
   exact eX h
 ·obtain ⟨rfl, hg⟩ := hq
  refine xB ?_
  refine nA ?_
  refine CW.ghost hg ?_
  refine sR ?_
  refine a_ldp ?_
  refine RW.ghost (Ghost.trf 27 [2] 5 [2, 0] _ _ rfl rfl rfl rfl rfl (clean_of (cleanL (Enc.clean (f := lV)))) rfl) ?_
  refine oP (x_stp inf_76 rfl (locB rfl rfl) rfl rfl rfl rfl (clean_of (cleanA ⟨(Enc.clean (f := I) _), (Enc.clean (f := I) _), (cleanL (Enc.clean (f := lV))), trivial⟩)) rfl) ?_
  refine rN ?_
  refine CW.ret ?_
  obtain rfl := sI h
  exact ⟨_, Ghost.refl, ⟨.inl rfl, [(4, [0], T.agg [I x0, I x1, L 1 lV r5])], ⟨⟨rfl, rfl, rfl, (var_76.h _ rfl rfl).h⟩, trivial⟩, rfl, (by simp), (by simp), trivial⟩⟩
theorem t_impl_residue (x0 : Int) (x1 : Int) (r : Int) (h : f_impl_residue x0 x1 = some r) : FnC Try.prog 104 [I x0, I x1] [I r] [] := by
 refine fB Try.func104 (fun St W w0 v => ?_)
 refine sR ?_
 refine a_as ?_
 refine rN ?_
 refine sR ?_
 refine a_mv ?_
 refine a_mv ?_
 obtain ⟨v1, hv1, h⟩ := bd h
 refine a_rem ?_
 refine a_mv ?_
 obtain ⟨v2, hv2, h⟩ := bd h
 refine a_add ?_
 refine a_mv ?_
 obtain ⟨v3, hv3, h⟩ := bd h
 refine a_rem ?_
 refine a_as ?_
 refine rN ?_
 refine CW.ret ?_
 obtain rfl := sI h
 exact rT
theorem t_impl_addMultiple (x0 : List Int) (x1 : List Int) (x2 : Int) (x3 : Int) (r : (List Int)) (h : f_impl_addMultiple x0 x1 x2 x3 = some r) : FnC Try.prog 65 [L 1 I x0, T.ro (lV x1), I x2, I x3] [] [(0, lV r)] := by
 refine fB Try.func65 (fun St W w0 v => ?_)
 refine sR ?_
 refine a_mv ?_
 refine a_len ?_
 refine a_mv ?_
 refine rN ?_
 refine CW.block ?_
 obtain ⟨r8, hr8, h⟩ := bd h
 refine CW.lp (s := (x0, 0)) (l1_impl_addMultiple x0 x1 x2 x3) (fun s1 : (List Int) × Int => envL [(0, L 1 I s1.1), (1, T.ro (lV x1)), (2, I x2), (3, I x3), (10, I (x0.length : Int)), (11, I s1.2)]) (fun (r8 : (List Int)) e E => e = .exit 0 ∧ Ghost ⟨St, W, w0, Try.f65.ntmps⟩ E (envL [(0, L 1 I r8)])) (.has ⟨rfl, rfl, rfl, rfl, rfl, rfl, trivial⟩) (fun s1 x h => ?_) hr8 (fun e E hq => ?_)
 ·refine sR ?_
  refine a_lss ?_
  refine rN ?_
  refine CW.seq ?_
  refine cn h (fun hc h => ?_) (fun hc h => ?_)
  ·refine CW.skip ?_
   refine nA ?_
   refine CW.seq ?_
   refine CW.block ?_
   refine sR ?_
   refine a_mv ?_
   refine a_as ?_
   refine rN ?_
   obtain ⟨v1, hv1, h⟩ := bd h
   obtain ⟨v2, hv2, h⟩ := bd h
   obtain ⟨v3, hv3, h⟩ := bd h
   obtain ⟨v4, hv4, h⟩ := bd h
   obtain ⟨r5, hr5, h⟩ := bd h
   obtain ⟨v6, hv6, h⟩ := bd h
   refine CW.dk ?_
   refine d_mv [(0, _)] ?_
   refine d_mv [(8, _)] ?_
   refine d_mv [(0, _)] ?_
   refine d_mv [(8, _)] ?_
   refine dG [(16, _), (0, _), (17, _)] [([(18, some (T.addr 0 [s1.2.toNat]))], [(18, 0)])] ⟨rfl, rfl, rfl, trivial⟩ (fun E h => IxOk.opE (x_ix (f := I) row_22 hv1 (locA h.1 h.2.1 rfl rfl) h.2.2.1 rfl) rfl) ?_
   refine dG [(18, _), (0, _)] [([(19, some (I v1))], [(19, 0)])] ⟨rfl, rfl, trivial⟩ (fun E h => IxOk.opE (x_ld (var_2.h _ rfl rfl) h.1 h.2.1 (getc hv1 rfl) rfl) rfl) ?_
   refine d_mv [(2, _)] ?_
   refine d_mv [(1, _)] ?_
   refine d_mv [(8, _)] ?_
   refine d_ixr [(21, _), (22, _)] ?_
   refine d_ldr [(23, _)] ?_
   refine d_mul [(20, _), (24, _)] ?_
   refine d_add [(19, _), (25, _)] ?_
   refine d_mv [(3, _)] ?_
   refine dC [(26, _), (27, _)] Try.call104 (t_impl_residue _ _ _ hr5) ?_
   refine dG [(14, _), (0, _), (15, _)] [([(29, some (T.addr 0 [s1.2.toNat]))], [(29, 0)])] ⟨rfl, rfl, rfl, trivial⟩ (fun E h => IxOk.opE (x_ix (f := I) row_22 hv6 (locA h.1 h.2.1 rfl rfl) h.2.2.1 rfl) rfl) ?_
   refine dG [(29, _), (0, _), (28, _)] [([(0, some (L 1 I (s1.1.set s1.2.toNat r5)))], [(0, 1)])] ⟨rfl, rfl, rfl, trivial⟩ (fun E h => IxOk.opE (x_st inf_2 rfl h.1 h.2.1 (getc hv6 rfl) (setc hv6 rfl) h.2.2.1 (clean_of (Enc.clean (f := I) _)) rfl) rfl) ?_
   refine dNA mixedP ?_
   refine nB ?_
   refine nA ?_
   refine CW.region ?_
   obtain ⟨v7, hv7, h⟩ := bd h
   refine a_add ?_
   refine a_mv ?_
   refine RW.nil ?_
   exact eN h
  ·refine CW.exit ?_
   refine xA ?_
   exact eX h
 ·obtain ⟨rfl, hg⟩ := hq
  refine xB ?_
  obtain rfl := sI h
  exact rTg hg rT
theorem t_impl_vectorTimes (x0 : List Int) (x1 : SMatrix) (r : (List Int)) (h : f_impl_vectorTimes x0 x1 = some r) : FnC Try.prog 103 [T.ro (lV x0), qMatrix x1] [lV r] [] := by
 refine fB Try.func103 (fun St W w0 v => ?_)
 refine sR ?_
 refine a_box ?_
 refine oP (x_nil 1 rfl) ?_
 refine rN ?_
 refine sR ?_
 refine a_fa ?_
 refine a_ld ?_
 obtain ⟨m1, hm1, h⟩ := bd h
 refine oP (x_makeL (f := I) (z := 0) elt_22 (rfl) hm1 rfl rfl rfl) ?_
 refine a_as ?_
 refine RW.ghost (Ghost.tr 5 10 _ rfl rfl (clean_of (cleanL (Enc.clean (f := I)))) rfl) ?_
 refine rN ?_
 refine CW.seq ?_
 refine sR ?_
 refine a_mv ?_
 refine a_lenr ?_
 refine a_mv ?_
 refine rN ?_
 refine CW.block ?_
 obtain ⟨r6, hr6, h⟩ := bd h
 refine CW.lp (s := (List.replicate m1 (0 : Int), 0)) (l1_impl_vectorTimes x0 x1) (fun s1 : (List Int) × Int => envL [(3, T.ptr (qMatrix x1)), (5, L 1 I s1.1), (11, T.ro (lV x0)), (12, I (x0.length : Int)), (13, I s1.2)]) (fun (r6 : (List Int)) e E => e = .exit 0 ∧ Ghost ⟨St, W, w0, Try.f103.ntmps⟩ E (envL [(5, L 1 I r6)])) (.has ⟨rfl, rfl, rfl, rfl, rfl, trivial⟩) (fun s1 x h => ?_) hr6 (fun e E hq => ?_)
 ·refine sR ?_
  refine a_lss ?_
  refine rN ?_
  refine CW.seq ?_
  refine cn h (fun hc h => ?_) (fun hc h => ?_)
  ·refine CW.skip ?_
   refine nA ?_
   refine CW.seq ?_
   refine CW.block ?_
   refine sR ?_
   refine a_mv ?_
   obtain ⟨v2, hv2, h⟩ := bd h
   refine a_ixr ?_
   refine a_ldr ?_
   refine a_as ?_
   refine a_as ?_
   refine rN ?_
   obtain ⟨v3, hv3, h⟩ := bd h
   obtain ⟨r4, hr4, h⟩ := bd h
   refine CW.dk ?_
   refine d_mv [(5, _)] ?_
   refine d_fa [(3, _)] ?_
   refine d_ld [(19, _), (3, _)] ?_
   refine d_mv [(6, _)] ?_
   refine d_ixr [(20, _), (21, _)] ?_
   refine d_ldr [(22, _)] ?_
   refine d_mv [(7, _)] ?_
   refine d_fa [(3, _)] ?_
   refine d_ld [(25, _), (3, _)] ?_
   refine dG [(18, _), (5, _), (23, _), (24, _), (26, _)] [([(18, some (L 1 I s1.1)), (5, some (T.same 18 []))], [(18, 1), (5, 1)]), ([(27, some (T.tup [])), (18, some (L 1 I r4))], [(27, 0), (18, 1)]), ([(5, some (L 1 I r4)), (18, some (T.same 5 []))], [(5, 1), (18, 1)])] ⟨rfl, rfl, rfl, rfl, rfl, trivial⟩ (fun E h => IxOk.opE (x_callM (xs := [.tmp 18, .tmp 23, .tmp 24, .tmp 26]) 0 18 5 [] Try.call65 (t_impl_addMultiple _ _ _ _ _ hr4) h.1 h.2.1 rfl (clean_of (cleanL (Enc.clean (f := I)))) (clean_of (cleanL (Enc.clean (f := I)))) (Enc.rofree (f := L 1 I) _) (Enc.rofree (f := L 1 I) _) ⟨(agLd rfl (clean_of (cleanL (Enc.clean (f := I)))) (Enc.rofree (f := L 1 I) _)), ⟨(agM _ (keepL h.2.2.1) rfl rfl), ⟨(agM _ (keepL h.2.2.2.1) rfl rfl), ⟨(agM _ (keepL h.2.2.2.2.1) rfl rfl), trivial⟩⟩⟩⟩ resN rfl rfl rfl rfl) rfl) ?_
   refine dNA mixedP ?_
   refine nB ?_
   refine nA ?_
   refine CW.region ?_
   obtain ⟨v5, hv5, h⟩ := bd h
   refine a_add ?_
   refine a_mv ?_
   refine RW.nil ?_
   exact eN h
  ·refine CW.exit ?_
   refine xA ?_
   exact eX h
 ·obtain ⟨rfl, hg⟩ := hq
  refine xB ?_
  refine nA ?_
  refine CW.ghost hg ?_
  refine sR ?_
  refine a_mv ?_
  refine a_as ?_
  refine RW.ghost (Ghost.tr 4 5 _ rfl rfl (clean_of (cleanL (Enc.clean (f := I)))) rfl) ?_
  refine rN ?_
  refine CW.ret ?_
  obtain rfl := sI h
  exact rT
theorem t_impl_product (x0 : SMatrix) (x1 : SMatrix) (r : SMatrix) (h : f_impl_product x0 x1 = some r) : FnC Try.prog 64 [qMatrix x0, qMatrix x1] [eSMatrix r] [] := by
 refine fB Try.func64 (fun St W w0 v => ?_)
 refine sR ?_
 refine a_box ?_
 refine a_box ?_
 refine a_alloc ?_
 refine rN ?_
 refine sR ?_
 refine a_fa ?_
 refine a_ld ?_
 refine a_fa ?_
 refine a_ld ?_
 refine oP (x_build bld_76 [(0, .tmp 9), (1, .tmp 11)] [(0, .slot 9 (I x0.Prime)), (1, .slot 11 (I x1.Columns))] [.slot 9 (I x0.Prime), .slot 11 (I x1.Columns), .zero (L 1 lV [])] (pkS rfl (clean_of (Enc.clean (f := I) _)) rfl (pkS rfl (clean_of (Enc.clean (f := I) _)) rfl (pkZ rfl pkN))) (bqC (.slot _ _) (bqC (.slot _ _) bqN)) rfl) ?_
 refine a_alloc ?_
 refine oP (x_stp inf_76 rfl (locB rfl rfl) rfl rfl rfl rfl (clean_of (cleanA ⟨(Enc.clean (f := I) _), (Enc.clean (f := I) _), trivial, trivial⟩)) rfl) ?_
 refine rN ?_
 refine CW.seq ?_
 refine sR ?_
 refine a_fa ?_
 refine a_ld ?_
 refine a_lenr ?_
 refine a_mv ?_
 refine rN ?_
 refine CW.block ?_
 obtain ⟨r5, hr5, h⟩ := bd h
 refine CW.lp (s := ([], 0)) (l1_impl_product x0 x1) (fun s1 : (List (List Int)) × Int => envL [(3, T.ptr (qMatrix x1)), (4, T.ptr (T.agg [I 0, I 0, L 1 lV []])), (5, T.ptr (T.agg [I x0.Prime, I x1.Columns, L 1 lV s1.1])), (14, T.ro (lM x0.Rows)), (15, I (x0.Rows.length : Int)), (16, I s1.2)]) (fun (r5 : (List (List Int))) e E => e = .exit 0 ∧ Ghost ⟨St, W, w0, Try.f64.ntmps⟩ E (envL [(4, T.ptr (T.agg [I 0, I 0, L 1 lV []])), (5, T.ptr (T.agg [I x0.Prime, I x1.Columns, L 1 lV r5]))])) (.has ⟨rfl, rfl, rfl, rfl, rfl, rfl, trivial⟩) (fun s1 x h => ?_) hr5 (fun e E hq => ?_)
 ·refine sR ?_
  refine a_lss ?_
  refine rN ?_
  refine CW.seq ?_
  refine cn h (fun hc h => ?_) (fun hc h => ?_)
  ·refine CW.skip ?_
   refine nA ?_
   refine CW.seq ?_
   refine CW.block ?_
   refine sR ?_
   obtain ⟨v1, hv1, h⟩ := bd h
   refine a_ixr ?_
   refine a_ldr ?_
   refine a_as ?_
   refine rN ?_
   obtain ⟨r2, hr2, h⟩ := bd h
   obtain ⟨v3, hv3, h⟩ := bd h
   refine CW.dk ?_
   refine d_fa [(5, _)] ?_
   refine d_ld [(20, _), (5, _)] ?_
   refine d_mv [(7, _)] ?_
   refine d_ldp [(3, _)] ?_
   refine dC [(22, _), (23, _)] Try.call103 (t_impl_vectorTimes _ _ _ hr2) ?_
   refine dG [(24, _)] [([(25, some (L 1 lV [r2])), (24, some (T.same 25 [0]))], [(25, 0), (24, 1)])] ⟨rfl, trivial⟩ (fun E h => IxOk.opE (x_bs elt_23 [.tmp 24] [.slot 24 (L 1 I r2)] [r2] lV ⟨.slot _ _, trivial⟩ (pkS h.1 (clean_of (cleanL (Enc.clean (f := I)))) rfl pkN) rfl rfl) rfl) ?_
   refine dG [(21, _), (5, _), (25, _)] [([(21, some (L 1 lV s1.1)), (5, some (T.ptr (T.agg [I x0.Prime, I x1.Columns, T.any])))], [(21, 1), (5, 3)]), ([(26, some (L 1 lV v3)), (21, some T.any), (25, some T.any)], [(26, 0), (21, 1), (25, 1)])] ⟨rfl, rfl, rfl, trivial⟩ (fun E h => IxOk.gh (Ghost.trq 21 5 [2, 0] h.1 h.2.1 rfl (clean_of (cleanL (Enc.clean (f := lV)))) rfl) <| IxOk.opE (x_appm (f := lV) elt_23 hv3 rfl (keepE h.2.2.1) rfl) rfl) ?_
   refine d_fa [(5, _)] ?_
   refine dG [(27, _), (5, _), (26, _)] [([(5, some (T.ptr (T.agg [I x0.Prime, I x1.Columns, L 1 lV v3]))), (26, some (T.same 5 [2, 0]))], [(5, 2), (26, 1)])] ⟨rfl, rfl, rfl, trivial⟩ (fun E h => IxOk.opE (x_st inf_23 rfl h.1 h.2.1 rfl rfl h.2.2.1 (clean_of (cleanL (Enc.clean (f := lV)))) rfl) rfl) ?_
   refine dNA mixedP ?_
   refine nB ?_
   refine nA ?_
   refine CW.region ?_
   obtain ⟨v4, hv4, h⟩ := bd h
   refine a_add ?_
   refine a_mv ?_
   refine RW.nil ?_
   exact eN h
  ·refine CW.exit ?_
   refine xA ?_
   exact eX h
 ·obtain ⟨rfl, hg⟩ := hq
  refine xB ?_
  refine nA ?_
  refine CW.ghost hg ?_
  refine sR ?_
  refine a_ldp ?_
  refine RW.ghost (Ghost.trf 29 [2] 5 [2, 0] _ _ rfl rfl rfl rfl rfl (clean_of (cleanL (Enc.clean (f := lV)))) rfl) ?_
  refine oP (x_stp inf_76 rfl (locB rfl rfl) rfl rfl rfl rfl (clean_of (cleanA ⟨(Enc.clean (f := I) _), (Enc.clean (f := I) _), (cleanL (Enc.clean (f := lV))), trivial⟩)) rfl) ?_
  refine rN ?_
  refine CW.ret ?_
  obtain rfl := sI h
  exact ⟨_, Ghost.refl, ⟨.inl rfl, [(4, [0], T.agg [I x0.Prime, I x1.Columns, L 1 lV r5])], ⟨⟨rfl, rfl, rfl, (var_76.h _ rfl rfl).h⟩, trivial⟩, rfl, (by simp), (by simp), trivial⟩⟩
theorem t_impl_actionOf (x0 : SModule) (x1 : List Int) (r : SMatrix) (h : f_impl_actionOf x0 x1 = some r) : FnC Try.prog 98 [T.ro ((Pt eSModule) x0), T.ro (lV x1)] [eSMatrix r] [] := by
 refine fB Try.func98 (fun St W w0 v => ?_)
 refine sR ?_
 refine a_alloc ?_
 refine rN ?_
 refine CW.seq ?_
 obtain ⟨r1, hr1, h⟩ := bd h
 refine CW.dk ?_
 refine d_mv [(0, _)] ?_
 refine d_nilc [(8, _)] ?_
 refine d_far [(9, _)] ?_
 refine d_ldr [(10, _)] ?_
 refine d_mv [(0, _)] ?_
 refine d_nilc [(12, _)] ?_
 refine d_far [(13, _)] ?_
 refine d_ldr [(14, _)] ?_
 refine dC [(11, _), (15, _)] Try.call136 (t_impl_identityOf _ _ _ hr1) ?_
 refine d_alloc [] ?_
 refine dG [(5, _), (16, _)] [([(5, some (T.ptr (eSMatrix r1))), (16, some (T.agg [I r1.Prime, I r1.Columns, T.same 5 [2, 0]]))], [(5, 1), (16, 1)])] ⟨rfl, rfl, trivial⟩ (fun E h => IxOk.opE (x_stp inf_76 rfl (locB h.1 rfl) h.1 rfl rfl h.2.1 (clean_of (cleanA ⟨(Enc.clean (f := I) _), (Enc.clean (f := I) _), (cleanL (Enc.clean (f := lV))), trivial⟩)) rfl) rfl) ?_
 refine dNA mixedP ?_
 refine nA ?_
 refine CW.seq ?_
 refine sR ?_
 refine a_mv ?_
 refine a_lenr ?_
 refine a_mv ?_
 refine rN ?_
 refine CW.block ?_
 obtain ⟨r7, hr7, h⟩ := bd h
 refine CW.lp (s := (r1.Prime, r1.Columns, r1.Rows, 0)) (l1_impl_actionOf x0 x1) (fun s1 : Int × Int × (List (List Int)) × Int => envL [(0, T.ro ((Pt eSModule) x0)), (4, T.ptr (T.agg [I 0, I 0, L 1 lV []])), (5, T.ptr (T.agg [I s1.1, I s1.2.1, L 1 lV s1.2.2.1])), (17, T.ro (lV x1)), (18, I (x1.length : Int)), (19, I s1.2.2.2)]) (fun (r7 : (Int × Int × (List (List Int)))) e E => e = .exit 0 ∧ Ghost ⟨St, W, w0, Try.f98.ntmps⟩ E (envL [(4, T.ptr (T.agg [I 0, I 0, L 1 lV []])), (5, T.ptr (T.agg [I r7.1, I r7.2.1, L 1 lV r7.2.2]))])) (.has ⟨rfl, rfl, rfl, rfl, rfl, rfl, trivial⟩) (fun s1 x h => ?_) hr7 (fun e E hq => ?_)
 ·refine sR ?_
  refine a_lss ?_
  refine rN ?_
  refine CW.seq ?_
  refine cn h (fun hc h => ?_) (fun hc h => ?_)
  ·refine CW.skip ?_
   refine nA ?_
   refine CW.seq ?_
   refine CW.block ?_
   refine sR ?_
   obtain ⟨v2, hv2, h⟩ := bd h
   refine a_ixr ?_
   refine a_ldr ?_
   refine a_as ?_
   refine rN ?_
   obtain ⟨v3, hv3, h⟩ := bd h
   obtain ⟨r4, hr4, h⟩ := bd h
   obtain ⟨r5, hr5, h⟩ := bd h
   refine CW.dk ?_
   refine d_ldp [(5, _)] ?_
   refine d_mv [(0, _)] ?_
   refine d_mv [(7, _)] ?_
   refine d_sub [(25, _)] ?_
   refine dG [(24, _), (26, _)] [([(27, some (qMatrix r4))], [(27, 0)])] ⟨rfl, rfl, trivial⟩ (fun E h => IxOk.opE (x_callF (xs := [.tmp 24, .tmp 26]) Try.call60 (t_impl_actionAt _ _ _ hr4) (afC h.1 rfl (afC h.2.1 rfl afN)) rfl ⟨(cleanA ⟨(Enc.clean (f := I) _), (Enc.clean (f := I) _), trivial, trivial⟩), trivial⟩ rfl rfl) rfl) ?_
   refine dG [(23, _), (5, _), (27, _)] [([(28, some (eSMatrix r5))], [(28, 0)])] ⟨rfl, rfl, rfl, trivial⟩ (fun E h => IxOk.opE (x_call (xs := [.tmp 23, .tmp 27]) Try.call64 (t_impl_product _ _ _ hr5) ⟨(agC _ h.1 (cloA (cloC rfl (cloC rfl (cloC (cloS h.2.1 rfl inferInstance) cloN)))) rfl), ⟨(agC _ h.2.2.1 rfl rfl), trivial⟩⟩ (resC (f := eSMatrix) inferInstance resN) rfl) rfl) ?_
   refine dG [(5, _), (28, _)] [([(5, some (T.ptr (eSMatrix r5))), (28, some (T.agg [I r5.Prime, I r5.Columns, T.same 5 [2, 0]]))], [(5, 1), (28, 1)])] ⟨rfl, rfl, trivial⟩ (fun E h => IxOk.opE (x_stp inf_76 rfl (locB h.1 rfl) h.1 rfl rfl h.2.1 (clean_of (cleanA ⟨(Enc.clean (f := I) _), (Enc.clean (f := I) _), (cleanL (Enc.clean (f := lV))), trivial⟩)) rfl) rfl) ?_
   refine dNA mixedP ?_
   refine nB ?_
   refine nA ?_
   refine CW.region ?_
   obtain ⟨v6, hv6, h⟩ := bd h
   refine a_add ?_
   refine a_mv ?_
   refine RW.nil ?_
   exact eN h
  ·refine CW.exit ?_
   refine xA ?_
   exact eX h
 ·obtain ⟨rfl, hg⟩ := hq
  refine xB ?_
  refine nA ?_
  refine CW.ghost hg ?_
  refine sR ?_
  refine a_ldp ?_
  refine RW.ghost (Ghost.trf 30 [2] 5 [2, 0] _ _ rfl rfl rfl rfl rfl (clean_of (cleanL (Enc.clean (f := lV)))) rfl) ?_
  refine oP (x_stp inf_76 rfl (locB rfl rfl) rfl rfl rfl rfl (clean_of (cleanA ⟨(Enc.clean (f := I) _), (Enc.clean (f := I) _), (cleanL (Enc.clean (f := lV))), trivial⟩)) rfl) ?_
  refine rN ?_
  refine CW.ret ?_
  obtain rfl := sI h
  exact ⟨_, Ghost.refl, ⟨.inl rfl, [(4, [0], T.agg [I r7.1, I r7.2.1, L 1 lV r7.2.2])], ⟨⟨rfl, rfl, rfl, (var_76.h _ rfl rfl).h⟩, trivial⟩, rfl, (by simp), (by simp), trivial⟩⟩
theorem t_slices_EqualFunc_int64_int64_int64_int64 (x0 : List (List Int)) (x1 : List (List Int)) (r : Bool) (h : f_slices_EqualFunc_int64_int64_int64_int64 x0 x1 = some r) : FnC Try.prog 134 [T.ro (lM x0), T.ro (lM x1), T.lit (.func (.func 135) #[] #[])] [B r] [] := by
 refine fB Try.func134 (fun St W w0 v => ?_)
 refine sR ?_
 refine a_as ?_
 refine rN ?_
 refine CW.seq ?_
 refine sR ?_
 refine a_mv ?_
 refine a_lenr ?_
 refine a_mv ?_
 refine a_lenr ?_
 refine a_neq ?_
 refine rN ?_
 refine cn h (fun hc h => ?_) (fun hc h => ?_)
 ·refine sR ?_
  refine a_as ?_
  refine rN ?_
  refine CW.ret ?_
  refine rA ?_
  obtain rfl := sI h
  exact rT
 ·refine CW.skip ?_
  refine nA ?_
  refine CW.seq ?_
  refine sR ?_
  refine a_mv ?_
  refine a_lenr ?_
  refine a_mv ?_
  refine rN ?_
  refine CW.block ?_
  obtain ⟨r5, hr5, h⟩ := bd h
  refine CW.lp (s := 0) (l1_slices_EqualFunc_int64_int64_int64_int64 x0 x1) (fun s1 : Int => envL [(1, T.ro (lM x1)), (2, T.lit (.func (.func 135) #[] #[])), (15, T.ro (lM x0)), (16, I (x0.length : Int)), (17, I s1)]) (fun (x : Unit ⊕ Bool) e E => match x with | (.inl r5) => e = .exit 0 ∧ Ghost ⟨St, W, w0, Try.f134.ntmps⟩ E (envL []) | (.inr r5) => e = .ret ∧ RetG ⟨St, W, w0, Try.f134.ntmps⟩ Try.prog Try.f134.results [T.ro (lM x0), T.ro (lM x1), T.lit (.func (.func 135) #[] #[])] [B r5] [] .ret E) (.has ⟨rfl, rfl, rfl, rfl, rfl, trivial⟩) (fun s1 x h => ?_) hr5 (fun e E hq => ?_)
  ·refine sR ?_
   refine a_lss ?_
   refine rN ?_
   refine CW.seq ?_
   refine cn h (fun hc h => ?_) (fun hc h => ?_)
   ·refine CW.skip ?_
    refine nA ?_
    refine CW.seq ?_
    refine CW.block ?_
    refine sR ?_
    refine a_mv ?_
    obtain ⟨v1, hv1, h⟩ := bd h
    refine a_ixr ?_
    refine a_ldr ?_
    refine a_as ?_
    refine a_as ?_
    refine rN ?_
    refine sR ?_
    refine a_mv ?_
    refine a_mv ?_
    obtain ⟨v2, hv2, h⟩ := bd h
    refine a_ixr ?_
    refine a_ldr ?_
    refine a_as ?_
    refine rN ?_
    refine sR ?_
    refine a_mv ?_
    refine a_mv ?_
    refine a_mv ?_
    obtain ⟨r3, hr3, h⟩ := bd h
    refine oP (x_callV (xs := [.tmp 27, .tmp 28]) rfl Try.call135 (t_slices_Equal_int64_int64 _ _ _ hr3) ⟨(agC _ rfl rfl rfl), ⟨(agC _ rfl rfl rfl), trivial⟩⟩ (resC (f := B) inferInstance resN) rfl) ?_
    refine a_not ?_
    refine rN ?_
    refine cn h (fun hc h => ?_) (fun hc h => ?_)
    ·refine sR ?_
     refine a_as ?_
     refine rN ?_
     refine CW.ret ?_
     refine rB ?_
     refine rA ?_
     exact eX h
    ·refine CW.skip ?_
     refine nB ?_
     refine nA ?_
     refine CW.region ?_
     obtain ⟨v4, hv4, h⟩ := bd h
     refine a_add ?_
     refine a_mv ?_
     refine RW.nil ?_
     exact eN h
   ·refine CW.exit ?_
    refine xA ?_
    exact eX h
  ·rcases r5 with r5 | r5
   ·obtain ⟨rfl, hg⟩ := hq
    refine xB ?_
    refine nA ?_
    refine CW.ghost hg ?_
    refine sR ?_
    refine a_as ?_
    refine rN ?_
    refine CW.ret ?_
    obtain rfl := sI h
    exact rT
   ·obtain ⟨rfl, hq⟩ := hq
    refine rB ?_
    refine rA ?_
    obtain rfl := sI h
    exact hq
theorem t_impl_sameRows (x0 : List (List Int)) (x1 : List (List Int)) (r : Bool) (h : f_impl_sameRows x0 x1 = some r) : FnC Try.prog 97 [T.ro (lM x0), T.ro (lM x1)] [B r] [] := by
 refine fB Try.func97 (fun St W w0 v => ?_)
 refine sR ?_
 refine a_as ?_
 refine rN ?_
 refine sR ?_
 refine a_mv ?_
 refine a_mv ?_
 obtain ⟨r1, hr1, h⟩ := bd h
 refine cA Try.call134 (t_slices_EqualFunc_int64_int64_int64_int64 _ _ _ hr1) ?_
 refine a_as ?_
 refine rN ?_
 refine CW.ret ?_
 obtain rfl := sI h
 exact rT
theorem t_impl_isModule (x0 : SPresentation) (x1 : SModule) (r : Bool) (h : f_impl_isModule x0 x1 = some r) : FnC Try.prog 58 [T.ro ((Pt eSPresentation) x0), T.ro ((Pt eSModule) x1)] [B r] [] := by
 refine fB Try.func58 (fun St W w0 v => ?_)
 refine sR ?_
 refine a_as ?_
 refine rN ?_
 refine CW.seq ?_
 refine CW.seq ?_
 obtain ⟨r1, hr1, h⟩ := bd h
 refine CW.casesB (!r1) (fun hc0 => ?_) (fun hc0 => ?_)
 ·have h := cT hc0 h
  refine CW.dk ?_
  refine d_mv [(0, _)] ?_
  refine d_nilc [(9, _)] ?_
  refine d_ldr [(10, _)] ?_
  refine dC [(11, _)] Try.call48 (t_impl_IsConsistent _ _ hr1) ?_
  refine dG [(12, _)] [([(13, some (B true))], [(13, 0)])] ⟨rfl, trivial⟩ (fun E h => IxOk.opE (okB_eq hc0 (x_not h.1 rfl)) rfl) ?_
  refine d_mv [(13, _)] ?_
  refine dsk2 ?_
  refine dsk2 ?_
  refine dsk2 ?_
  refine dsk2 ?_
  refine dsk2 ?_
  refine dsk2 ?_
  refine d_pick [(14, _)] ?_
  refine d_mv [(21, _)] ?_
  refine dsk2 ?_
  refine dsk2 ?_
  refine dsk2 ?_
  refine dsk2 ?_
  refine dsk2 ?_
  refine dsk2 ?_
  refine d_pick [(22, _)] ?_
  refine d_mv [(29, _)] ?_
  refine dsk2 ?_
  refine dsk2 ?_
  refine dsk2 ?_
  refine dsk2 ?_
  refine dsk2 ?_
  refine dsk2 ?_
  refine dsk2 ?_
  refine dsk2 ?_
  refine dsk2 ?_
  refine dsk2 ?_
  refine dsk2 ?_
  refine d_pick [(30, _)] ?_
  refine dN ([] :: [0] :: [0, 1] :: [0, 1, 2] :: [0, 1, 2, 3] :: [0, 1, 2, 3, 4] :: [0, 1, 2, 3, 4, 5] :: [0, 1, 2, 3, 4, 5, 6] :: [0, 1, 2, 3, 4, 5, 6, 7] :: [0, 1, 2, 3, 4, 5, 6, 7, 8] :: [0, 1, 2, 3, 4, 5, 6, 7, 8, 9] :: [0, 1, 2, 3, 4, 5, 6, 7, 8, 9, 10] :: [0, 1, 2, 3, 4, 5, 6, 7, 8, 9, 10, 11] :: [0, 1, 2, 3, 4, 5, 6, 7, 8, 9, 10, 11, 12] :: [0, 1, 2, 3, 4, 5, 6, 7, 8, 9, 10, 11, 12, 13] :: [0, 1, 2, 3, 4, 5, 6, 7, 8, 9, 10, 11, 12, 13, 14] :: [0, 1, 2, 3, 4, 5, 6, 7, 8, 9, 10, 11, 12, 13, 14, 15] :: [0, 1, 2, 3, 4, 5, 6, 7, 8, 9, 10, 11, 12, 13, 14, 15, 16] :: [0, 1, 2, 3, 4, 5, 6, 7, 8, 9, 10, 11, 12, 13, 14, 15, 16, 17] :: [0, 1, 2, 3, 4, 5, 6, 7, 8, 9, 10, 11, 12, 13, 14, 15, 16, 17, 18] :: [0, 1, 2, 3, 4, 5, 6, 7, 8, 9, 10, 11, 12, 13, 14, 15, 16, 17, 18, 19] :: [0, 1, 2, 3, 4, 5, 6, 7, 8, 9, 10, 11, 12, 13, 14, 15, 16, 17, 18, 19, 20] :: [0, 1, 2, 3, 4, 5, 6, 7, 8, 9, 10, 11, 12, 13, 14, 15, 16, 17, 18, 19, 20, 21] :: [0, 1, 2, 3, 4, 5, 6, 7, 8, 9, 10, 11, 12, 13, 14, 15, 16, 17, 18, 19, 20, 21, 22] :: [0, 1, 2, 3, 4, 5, 6, 7, 8, 9, 10, 11, 12, 13, 14, 15, 16, 17, 18, 19, 20, 21, 22, 23] :: [0, 1, 2, 3, 4, 5, 6, 7, 8, 9, 10, 11, 12, 13, 14, 15, 16, 17, 18, 19, 20, 21, 22, 23, 24] :: [0, 1, 2, 3, 4, 5, 6, 7, 8, 9, 10, 11, 12, 13, 14, 15, 16, 17, 18, 19, 20, 21, 22, 23, 24, 25] :: [0, 1, 2, 3, 4, 5, 6, 7, 8, 9, 10, 11, 12, 13, 14, 15, 16, 17, 18, 19, 20, 21] :: [0, 1, 2, 3, 4, 5, 6, 7, 8, 9, 10, 11, 12, 13, 14, 15, 16, 17, 18, 19, 20, 21, 27] :: [0, 1, 2, 3, 4, 5, 6, 7, 8, 9, 10, 11, 12, 13, 14, 15, 16, 17, 18, 19, 20, 21, 27, 28] :: [0, 1, 2, 3, 4, 5, 6, 7, 8, 9, 10, 11, 12, 13, 14, 15, 16, 17, 18, 19, 20, 21, 27, 28, 29] :: [0, 1, 2, 3, 4, 5, 6, 7, 8, 9, 10, 11, 12, 13, 14, 15, 16, 17, 18, 19, 20, 21, 27, 28, 29, 30] :: [0, 1, 2, 3, 4, 5, 6, 7, 8, 9, 10, 11, 12, 13, 14, 15, 16, 17, 18, 19, 20, 21, 22, 23, 24, 25, 26, 27, 28, 29, 30, 31] :: [0, 1, 2, 3, 4, 5, 6, 7, 8, 9, 10, 11, 12, 13, 14, 15, 16, 17, 18, 19, 20, 21, 22, 23, 24, 25, 26, 27, 28, 29, 30, 31, 32] :: []) mixedP ?_
  refine nA ?_
  refine CW.condT rfl ?_
  refine CW.seq ?_
  refine CW.to [] trivial ?_
  refine CW.region ?_
  refine a_as ?_
  refine rN ?_
  refine CW.ret ?_
  refine rA ?_
  obtain rfl := sI h
  exact rT
 ·have h := cF hc0 h
  obtain ⟨r2, hr2, h⟩ := bd h
  refine CW.casesB (!r2) (fun hc1 => ?_) (fun hc1 => ?_)
  ·have h := cT hc1 h
   refine CW.dk ?_
   refine d_mv [(0, _)] ?_
   refine d_nilc [(9, _)] ?_
   refine d_ldr [(10, _)] ?_
   refine dC [(11, _)] Try.call48 (t_impl_IsConsistent _ _ hr1) ?_
   refine dG [(12, _)] [([(13, some (B false))], [(13, 0)])] ⟨rfl, trivial⟩ (fun E h => IxOk.opE (okB_eq hc0 (x_not h.1 rfl)) rfl) ?_
   refine d_mv [(13, _)] ?_
   refine e_mv [(1, _), (14, _)] ?_
   refine e_nilc [(15, _), (14, _)] ?_
   refine e_far [(16, _), (14, _)] ?_
   refine e_ldr [(17, _), (14, _)] ?_
   refine dG [(18, _), (14, _)] [([(19, some (B r2))], [(19, 0)])] ⟨rfl, rfl, trivial⟩ (fun E h => IxOk.guardE 5 false 14 (x_call (xs := [.tmp 18]) Try.call93 (t_impl_IsGroupPrime _ _ hr2) ⟨(agC _ h.1 rfl rfl), trivial⟩ (resC (f := B) inferInstance resN) rfl) rfl rfl h.2.1 rfl) ?_
   refine dG [(19, _), (14, _)] [([(20, some (B true))], [(20, 0)])] ⟨rfl, rfl, trivial⟩ (fun E h => IxOk.guardE 5 false 14 (okB_eq hc1 (x_not h.1 rfl)) rfl rfl h.2.1 rfl) ?_
   refine d_pick [(14, _), (20, _)] ?_
   refine d_mv [(21, _)] ?_
   refine dsk2 ?_
   refine dsk2 ?_
   refine dsk2 ?_
   refine dsk2 ?_
   refine dsk2 ?_
   refine dsk2 ?_
   refine d_pick [(22, _)] ?_
   refine d_mv [(29, _)] ?_
   refine dsk2 ?_
   refine dsk2 ?_
   refine dsk2 ?_
   refine dsk2 ?_
   refine dsk2 ?_
   refine dsk2 ?_
   refine dsk2 ?_
   refine dsk2 ?_
   refine dsk2 ?_
   refine dsk2 ?_
   refine dsk2 ?_
   refine d_pick [(30, _)] ?_
   refine dN ([] :: [0] :: [0, 1] :: [0, 1, 2] :: [0, 1, 2, 3] :: [0, 1, 2, 3, 4] :: [0, 1, 2, 3, 4, 5] :: [0, 1, 2, 3, 4, 5, 6] :: [0, 1, 2, 3, 4, 5, 6, 7] :: [0, 1, 2, 3, 4, 5, 6, 7, 8] :: [0, 1, 2, 3, 4, 5, 6, 7, 8, 9] :: [0, 1, 2, 3, 4, 5, 6, 7, 8, 9, 10] :: [0, 1, 2, 3, 4, 5, 6, 7, 8, 9, 10, 11] :: [0, 1, 2, 3, 4, 5, 6, 7, 8, 9, 10, 11, 12] :: [0, 1, 2, 3, 4, 5, 6, 7, 8, 9, 10, 11, 12, 13] :: [0, 1, 2, 3, 4, 5, 6, 7, 8, 9, 10, 11, 12, 13, 14] :: [0, 1, 2, 3, 4, 5, 6, 7, 8, 9, 10, 11, 12, 13, 14, 15] :: [0, 1, 2, 3, 4, 5, 6, 7, 8, 9, 10, 11, 12, 13, 14, 15, 16] :: [0, 1, 2, 3, 4, 5, 6, 7, 8, 9, 10, 11, 12, 13, 14, 15, 16, 17] :: [0, 1, 2, 3, 4, 5, 6, 7, 8, 9, 10, 11, 12, 13, 14, 15, 16, 17, 18] :: [0, 1, 2, 3, 4, 5, 6, 7, 8, 9, 10, 11, 12, 13, 14, 15, 16, 17, 18, 19] :: [0, 1, 2, 3, 4, 5, 6, 7, 8, 9, 10, 11, 12, 13, 14, 15, 16, 17, 18, 19, 20] :: [0, 1, 2, 3, 4, 5, 6, 7, 8, 9, 10, 11, 12, 13, 14, 15, 16, 17, 18, 19, 20, 21] :: [0, 1, 2, 3, 4, 5, 6, 7, 8, 9, 10, 11, 12, 13, 14, 15, 16, 17, 18, 19, 20, 21, 22] :: [0, 1, 2, 3, 4, 5, 6, 7, 8, 9, 10, 11, 12, 13, 14, 15, 16, 17, 18, 19, 20, 21, 22, 23] :: [0, 1, 2, 3, 4, 5, 6, 7, 8, 9, 10, 11, 12, 13, 14, 15, 16, 17, 18, 19, 20, 21, 22, 23, 24] :: [0, 1, 2, 3, 4, 5, 6, 7, 8, 9, 10, 11, 12, 13, 14, 15, 16, 17, 18, 19, 20, 21, 22, 23, 24, 25] :: [0, 1, 2, 3, 4, 5, 6, 7, 8, 9, 10, 11, 12, 13, 14, 15, 16, 17, 18, 19, 20, 21] :: [0, 1, 2, 3, 4, 5, 6, 7, 8, 9, 10, 11, 12, 13, 14, 15, 16, 17, 18, 19, 20, 21, 27] :: [0, 1, 2, 3, 4, 5, 6, 7, 8, 9, 10, 11, 12, 13, 14, 15, 16, 17, 18, 19, 20, 21, 27, 28] :: [0, 1, 2, 3, 4, 5, 6, 7, 8, 9, 10, 11, 12, 13, 14, 15, 16, 17, 18, 19, 20, 21, 27, 28, 29] :: [0, 1, 2, 3, 4, 5, 6, 7, 8, 9, 10, 11, 12, 13, 14, 15, 16, 17, 18, 19, 20, 21, 27, 28, 29, 30] :: [0, 1, 2, 3, 4, 5, 6, 7, 8, 9, 10, 11, 12, 13, 14, 15, 16, 17, 18, 19, 20, 21, 22, 23, 24, 25, 26, 27, 28, 29, 30, 31] :: [0, 1, 2, 3, 4, 5, 6, 7, 8, 9, 10, 11, 12, 13, 14, 15, 16, 17, 18, 19, 20, 21, 22, 23, 24, 25, 26, 27, 28, 29, 30, 31, 32] :: []) mixedP ?_
   refine nA ?_
   refine CW.condT rfl ?_
   refine CW.seq ?_
   refine CW.to [] trivial ?_
   refine CW.region ?_
   refine a_as ?_
   refine rN ?_
   refine CW.ret ?_
   refine rA ?_
   obtain rfl := sI h
   exact rT
  ·have h := cF hc1 h
   obtain ⟨r3, hr3, h⟩ := bd h
   refine CW.casesB (!r3) (fun hc2 => ?_) (fun hc2 => ?_)
   ·have h := cT hc2 h
    refine CW.dk ?_
    refine d_mv [(0, _)] ?_
    refine d_nilc [(9, _)] ?_
    refine d_ldr [(10, _)] ?_
    refine dC [(11, _)] Try.call48 (t_impl_IsConsistent _ _ hr1) ?_
    refine dG [(12, _)] [([(13, some (B false))], [(13, 0)])] ⟨rfl, trivial⟩ (fun E h => IxOk.opE (okB_eq hc0 (x_not h.1 rfl)) rfl) ?_
    refine d_mv [(13, _)] ?_
    refine e_mv [(1, _), (14, _)] ?_
    refine e_nilc [(15, _), (14, _)] ?_
    refine e_far [(16, _), (14, _)] ?_
    refine e_ldr [(17, _), (14, _)] ?_
    refine dG [(18, _), (14, _)] [([(19, some (B r2))], [(19, 0)])] ⟨rfl, rfl, trivial⟩ (fun E h => IxOk.guardE 5 false 14 (x_call (xs := [.tmp 18]) Try.call93 (t_impl_IsGroupPrime _ _ hr2) ⟨(agC _ h.1 rfl rfl), trivial⟩ (resC (f := B) inferInstance resN) rfl) rfl rfl h.2.1 rfl) ?_
    refine dG [(19, _), (14, _)] [([(20, some (B false))], [(20, 0)])] ⟨rfl, rfl, trivial⟩ (fun E h => IxOk.guardE 5 false 14 (okB_eq hc1 (x_not h.1 rfl)) rfl rfl h.2.1 rfl) ?_
    refine d_pick [(14, _), (20, _)] ?_
    refine d_mv [(21, _)] ?_
    refine e_mv [(1, _), (22, _)] ?_
    refine e_nilc [(23, _), (22, _)] ?_
    refine e_far [(24, _), (22, _)] ?_
    refine e_ldr [(25, _), (22, _)] ?_
    refine dG [(26, _), (22, _)] [([(27, some (B r3))], [(27, 0)])] ⟨rfl, rfl, trivial⟩ (fun E h => IxOk.guardE 13 false 22 (x_call (xs := [.tmp 26, .const _, .const _]) Try.call94 (t_impl_inside _ _ _ _ hr3) ⟨(agC _ h.1 rfl rfl), ⟨(agC _ rfl rfl rfl), ⟨(agC _ rfl rfl rfl), trivial⟩⟩⟩ (resC (f := B) inferInstance resN) rfl) rfl rfl h.2.1 rfl) ?_
    refine dG [(27, _), (22, _)] [([(28, some (B true))], [(28, 0)])] ⟨rfl, rfl, trivial⟩ (fun E h => IxOk.guardE 13 false 22 (okB_eq hc2 (x_not h.1 rfl)) rfl rfl h.2.1 rfl) ?_
    refine d_pick [(22, _), (28, _)] ?_
    refine d_mv [(29, _)] ?_
    refine dsk2 ?_
    refine dsk2 ?_
    refine dsk2 ?_
    refine dsk2 ?_
    refine dsk2 ?_
    refine dsk2 ?_
    refine dsk2 ?_
    refine dsk2 ?_
    refine dsk2 ?_
    refine dsk2 ?_
    refine dsk2 ?_
    refine d_pick [(30, _)] ?_
    refine dN ([] :: [0] :: [0, 1] :: [0, 1, 2] :: [0, 1, 2, 3] :: [0, 1, 2, 3, 4] :: [0, 1, 2, 3, 4, 5] :: [0, 1, 2, 3, 4, 5, 6] :: [0, 1, 2, 3, 4, 5, 6, 7] :: [0, 1, 2, 3, 4, 5, 6, 7, 8] :: [0, 1, 2, 3, 4, 5, 6, 7, 8, 9] :: [0, 1, 2, 3, 4, 5, 6, 7, 8, 9, 10] :: [0, 1, 2, 3, 4, 5, 6, 7, 8, 9, 10, 11] :: [0, 1, 2, 3, 4, 5, 6, 7, 8, 9, 10, 11, 12] :: [0, 1, 2, 3, 4, 5, 6, 7, 8, 9, 10, 11, 12, 13] :: [0, 1, 2, 3, 4, 5, 6, 7, 8, 9, 10, 11, 12, 13, 14] :: [0, 1, 2, 3, 4, 5, 6, 7, 8, 9, 10, 11, 12, 13, 14, 15] :: [0, 1, 2, 3, 4, 5, 6, 7, 8, 9, 10, 11, 12, 13, 14, 15, 16] :: [0, 1, 2, 3, 4, 5, 6, 7, 8, 9, 10, 11, 12, 13, 14, 15, 16, 17] :: [0, 1, 2, 3, 4, 5, 6, 7, 8, 9, 10, 11, 12, 13, 14, 15, 16, 17, 18] :: [0, 1, 2, 3, 4, 5, 6, 7, 8, 9, 10, 11, 12, 13, 14, 15, 16, 17, 18, 19] :: [0, 1, 2, 3, 4, 5, 6, 7, 8, 9, 10, 11, 12, 13, 14, 15, 16, 17, 18, 19, 20] :: [0, 1, 2, 3, 4, 5, 6, 7, 8, 9, 10, 11, 12, 13, 14, 15, 16, 17, 18, 19, 20, 21] :: [0, 1, 2, 3, 4, 5, 6, 7, 8, 9, 10, 11, 12, 13, 14, 15, 16, 17, 18, 19, 20, 21, 22] :: [0, 1, 2, 3, 4, 5, 6, 7, 8, 9, 10, 11, 12, 13, 14, 15, 16, 17, 18, 19, 20, 21, 22, 23] :: [0, 1, 2, 3, 4, 5, 6, 7, 8, 9, 10, 11, 12, 13, 14, 15, 16, 17, 18, 19, 20, 21, 22, 23, 24] :: [0, 1, 2, 3, 4, 5, 6, 7, 8, 9, 10, 11, 12, 13, 14, 15, 16, 17, 18, 19, 20, 21, 22, 23, 24, 25] :: [0, 1, 2, 3, 4, 5, 6, 7, 8, 9, 10, 11, 12, 13, 14, 15, 16, 17, 18, 19, 20, 21] :: [0, 1, 2, 3, 4, 5, 6, 7, 8, 9, 10, 11, 12, 13, 14, 15, 16, 17, 18, 19, 20, 21, 27] :: [0, 1, 2, 3, 4, 5, 6, 7, 8, 9, 10, 11, 12, 13, 14, 15, 16, 17, 18, 19, 20, 21, 27, 28] :: [0, 1, 2, 3, 4, 5, 6, 7, 8, 9, 10, 11, 12, 13, 14, 15, 16, 17, 18, 19, 20, 21, 27, 28, 29] :: [0, 1, 2, 3, 4, 5, 6, 7, 8, 9, 10, 11, 12, 13, 14, 15, 16, 17, 18, 19, 20, 21, 27, 28, 29, 30] :: [0, 1, 2, 3, 4, 5, 6, 7, 8, 9, 10, 11, 12, 13, 14, 15, 16, 17, 18, 19, 20, 21, 22, 23, 24, 25, 26, 27, 28, 29, 30, 31] :: [0, 1, 2, 3, 4, 5, 6, 7, 8, 9, 10, 11, 12, 13, 14, 15, 16, 17, 18, 19, 20, 21, 22, 23, 24, 25, 26, 27, 28, 29, 30, 31, 32] :: []) mixedP ?_
    refine nA ?_
    refine CW.condT rfl ?_
    refine CW.seq ?_
    refine CW.to [] trivial ?_
    refine CW.region ?_
    refine a_as ?_
    refine rN ?_
    refine CW.ret ?_
    refine rA ?_
    obtain rfl := sI h
    exact rT
   ·have h := cF hc2 h
    refine CW.dk ?_
    refine d_mv [(0, _)] ?_
    refine d_nilc [(9, _)] ?_
    refine d_ldr [(10, _)] ?_
    refine dC [(11, _)] Try.call48 (t_impl_IsConsistent _ _ hr1) ?_
    refine dG [(12, _)] [([(13, some (B false))], [(13, 0)])] ⟨rfl, trivial⟩ (fun E h => IxOk.opE (okB_eq hc0 (x_not h.1 rfl)) rfl) ?_
    refine d_mv [(13, _)] ?_
    refine e_mv [(1, _), (14, _)] ?_
    refine e_nilc [(15, _), (14, _)] ?_
    refine e_far [(16, _), (14, _)] ?_
    refine e_ldr [(17, _), (14, _)] ?_
    refine dG [(18, _), (14, _)] [([(19, some (B r2))], [(19, 0)])] ⟨rfl, rfl, trivial⟩ (fun E h => IxOk.guardE 5 false 14 (x_call (xs := [.tmp 18]) Try.call93 (t_impl_IsGroupPrime _ _ hr2) ⟨(agC _ h.1 rfl rfl), trivial⟩ (resC (f := B) inferInstance resN) rfl) rfl rfl h.2.1 rfl) ?_
    refine dG [(19, _), (14, _)] [([(20, some (B false))], [(20, 0)])] ⟨rfl, rfl, trivial⟩ (fun E h => IxOk.guardE 5 false 14 (okB_eq hc1 (x_not h.1 rfl)) rfl rfl h.2.1 rfl) ?_
    refine d_pick [(14, _), (20, _)] ?_
    refine d_mv [(21, _)] ?_
    refine e_mv [(1, _), (22, _)] ?_
    refine e_nilc [(23, _), (22, _)] ?_
    refine e_far [(24, _), (22, _)] ?_
    refine e_ldr [(25, _), (22, _)] ?_
    refine dG [(26, _), (22, _)] [([(27, some (B r3))], [(27, 0)])] ⟨rfl, rfl, trivial⟩ (fun E h => IxOk.guardE 13 false 22 (x_call (xs := [.tmp 26, .const _, .const _]) Try.call94 (t_impl_inside _ _ _ _ hr3) ⟨(agC _ h.1 rfl rfl), ⟨(agC _ rfl rfl rfl), ⟨(agC _ rfl rfl rfl), trivial⟩⟩⟩ (resC (f := B) inferInstance resN) rfl) rfl rfl h.2.1 rfl) ?_
    refine dG [(27, _), (22, _)] [([(28, some (B false))], [(28, 0)])] ⟨rfl, rfl, trivial⟩ (fun E h => IxOk.guardE 13 false 22 (okB_eq hc2 (x_not h.1 rfl)) rfl rfl h.2.1 rfl) ?_
    refine d_pick [(22, _), (28, _)] ?_
    refine d_mv [(29, _)] ?_
    refine e_mv [(1, _), (30, _)] ?_
    refine e_nilc [(31, _), (30, _)] ?_
    refine e_far [(32, _), (30, _)] ?_
    refine e_ldr [(33, _), (30, _)] ?_
    refine e_lenr [(34, _), (30, _)] ?_
    refine e_mv [(0, _), (30, _)] ?_
    refine e_nilc [(36, _), (30, _)] ?_
    refine e_far [(37, _), (30, _)] ?_
    refine e_ldr [(38, _), (30, _)] ?_
    refine e_lenr [(39, _), (30, _)] ?_
    refine e_neq [(35, _), (40, _), (30, _)] ?_
    refine d_pick [(30, _), (41, _)] ?_
    refine dN ([] :: [0] :: [0, 1] :: [0, 1, 2] :: [0, 1, 2, 3] :: [0, 1, 2, 3, 4] :: [0, 1, 2, 3, 4, 5] :: [0, 1, 2, 3, 4, 5, 6] :: [0, 1, 2, 3, 4, 5, 6, 7] :: [0, 1, 2, 3, 4, 5, 6, 7, 8] :: [0, 1, 2, 3, 4, 5, 6, 7, 8, 9] :: [0, 1, 2, 3, 4, 5, 6, 7, 8, 9, 10] :: [0, 1, 2, 3, 4, 5, 6, 7, 8, 9, 10, 11] :: [0, 1, 2, 3, 4, 5, 6, 7, 8, 9, 10, 11, 12] :: [0, 1, 2, 3, 4, 5, 6, 7, 8, 9, 10, 11, 12, 13] :: [0, 1, 2, 3, 4, 5, 6, 7, 8, 9, 10, 11, 12, 13, 14] :: [0, 1, 2, 3, 4, 5, 6, 7, 8, 9, 10, 11, 12, 13, 14, 15] :: [0, 1, 2, 3, 4, 5, 6, 7, 8, 9, 10, 11, 12, 13, 14, 15, 16] :: [0, 1, 2, 3, 4, 5, 6, 7, 8, 9, 10, 11, 12, 13, 14, 15, 16, 17] :: [0, 1, 2, 3, 4, 5, 6, 7, 8, 9, 10, 11, 12, 13, 14, 15, 16, 17, 18] :: [0, 1, 2, 3, 4, 5, 6, 7, 8, 9, 10, 11, 12, 13, 14, 15, 16, 17, 18, 19] :: [0, 1, 2, 3, 4, 5, 6, 7, 8, 9, 10, 11, 12, 13, 14, 15, 16, 17, 18, 19, 20] :: [0, 1, 2, 3, 4, 5, 6, 7, 8, 9, 10, 11, 12, 13, 14, 15, 16, 17, 18, 19, 20, 21] :: [0, 1, 2, 3, 4, 5, 6, 7, 8, 9, 10, 11, 12, 13, 14, 15, 16, 17, 18, 19, 20, 21, 22] :: [0, 1, 2, 3, 4, 5, 6, 7, 8, 9, 10, 11, 12, 13, 14, 15, 16, 17, 18, 19, 20, 21, 22, 23] :: [0, 1, 2, 3, 4, 5, 6, 7, 8, 9, 10, 11, 12, 13, 14, 15, 16, 17, 18, 19, 20, 21, 22, 23, 24] :: [0, 1, 2, 3, 4, 5, 6, 7, 8, 9, 10, 11, 12, 13, 14, 15, 16, 17, 18, 19, 20, 21, 22, 23, 24, 25] :: [0, 1, 2, 3, 4, 5, 6, 7, 8, 9, 10, 11, 12, 13, 14, 15, 16, 17, 18, 19, 20, 21] :: [0, 1, 2, 3, 4, 5, 6, 7, 8, 9, 10, 11, 12, 13, 14, 15, 16, 17, 18, 19, 20, 21, 27] :: [0, 1, 2, 3, 4, 5, 6, 7, 8, 9, 10, 11, 12, 13, 14, 15, 16, 17, 18, 19, 20, 21, 27, 28] :: [0, 1, 2, 3, 4, 5, 6, 7, 8, 9, 10, 11, 12, 13, 14, 15, 16, 17, 18, 19, 20, 21, 27, 28, 29] :: [0, 1, 2, 3, 4, 5, 6, 7, 8, 9, 10, 11, 12, 13, 14, 15, 16, 17, 18, 19, 20, 21, 27, 28, 29, 30] :: [0, 1, 2, 3, 4, 5, 6, 7, 8, 9, 10, 11, 12, 13, 14, 15, 16, 17, 18, 19, 20, 21, 22, 23, 24, 25, 26, 27, 28, 29, 30, 31] :: [0, 1, 2, 3, 4, 5, 6, 7, 8, 9, 10, 11, 12, 13, 14, 15, 16, 17, 18, 19, 20, 21, 22, 23, 24, 25, 26, 27, 28, 29, 30, 31, 32] :: []) mixedP ?_
    refine nA ?_
    refine cn h (fun hc h => ?_) (fun hc h => ?_)
    ·refine CW.seq ?_
     refine CW.to [] trivial ?_
     refine CW.region ?_
     refine a_as ?_
     refine rN ?_
     refine CW.ret ?_
     refine rA ?_
     obtain rfl := sI h
     exact rT
    ·refine CW.skip ?_
     refine nA ?_
     refine CW.seq ?_
     refine CW.seq ?_
     refine CW.to [(0, T.ro ((Pt eSPresentation) x0)), (1, T.ro ((Pt eSModule) x1))] ⟨rfl, rfl, trivial⟩ ?_
     refine CW.region ?_
     refine a_mv ?_
     refine a_nilc ?_
     refine a_far ?_
     refine a_ldr ?_
     refine a_lenr ?_
     refine a_mv ?_
     refine rN ?_
     refine CW.block ?_
     obtain ⟨r8, hr8, h⟩ := bd h
     refine CW.lp (s := 0) (l1_impl_isModule x1) (fun s1 : Int => envL [(0, T.ro ((Pt eSPresentation) x0)), (1, T.ro ((Pt eSModule) x1)), (46, T.ro (lC x1.Actions)), (47, I (x1.Actions.length : Int)), (48, I s1)]) (fun (x : Unit ⊕ Bool) e E => match x with | (.inl r8) => e = .exit 0 ∧ Ghost ⟨St, W, w0, Try.f58.ntmps⟩ E (envL [(0, T.ro ((Pt eSPresentation) x0)), (1, T.ro ((Pt eSModule) x1))]) | (.inr r8) => e = .ret ∧ RetG ⟨St, W, w0, Try.f58.ntmps⟩ Try.prog Try.f58.results [T.ro ((Pt eSPresentation) x0), T.ro ((Pt eSModule) x1)] [B r8] [] .ret E) (.has ⟨rfl, rfl, rfl, rfl, rfl, trivial⟩) (fun s1 x h => ?_) hr8 (fun e E hq => ?_)
     ·refine sR ?_
      refine a_lss ?_
      refine rN ?_
      refine CW.seq ?_
      refine cn h (fun hc h => ?_) (fun hc h => ?_)
      ·refine CW.skip ?_
       refine nA ?_
       refine CW.seq ?_
       refine CW.block ?_
       refine sR ?_
       refine a_mv ?_
       obtain ⟨v4, hv4, h⟩ := bd h
       refine a_ixr ?_
       refine a_ldr ?_
       refine a_as ?_
       refine a_as ?_
       refine rN ?_
       refine sR ?_
       refine a_mv ?_
       refine a_lenr ?_
       refine a_mv ?_
       refine a_nilc ?_
       refine a_far ?_
       refine a_ldr ?_
       refine a_neq ?_
       refine a_mv ?_
       refine RW.cases 60 _ rfl (fun hc => ?_) (fun hc => ?_)
       ·have h := cT hc h
        refine sk2 ?_
        refine sk2 ?_
        refine sk2 ?_
        refine sk2 ?_
        refine sk2 ?_
        refine a_pick ?_
        refine rN ?_
        refine CW.condT rfl ?_
        refine sR ?_
        refine a_as ?_
        refine rN ?_
        refine CW.ret ?_
        refine rB ?_
        refine rA ?_
        exact eX h
       ·have h := cF hc h
        refine g_mv ?_
        refine g_mv ?_
        obtain ⟨r5, hr5, h⟩ := bd h
        refine RW.cons (IxOk.guard 7 false 60 (x_callF (xs := [.tmp 61, .tmp 62]) Try.call60 (t_impl_actionAt _ _ _ hr5) (afC rfl rfl (afC rfl rfl afN)) rfl ⟨(cleanA ⟨(Enc.clean (f := I) _), (Enc.clean (f := I) _), trivial, trivial⟩), trivial⟩ rfl rfl)) ?_
        obtain ⟨r6, hr6, h⟩ := bd h
        refine RW.cons (IxOk.guard 7 false 60 (x_call (xs := [.tmp 63]) Try.call95 (t_impl_IsMatrix _ _ hr6) ⟨(agC _ rfl rfl rfl), trivial⟩ (resC (f := B) inferInstance resN) rfl)) ?_
        refine g_not ?_
        refine a_pick ?_
        refine rN ?_
        refine cn h (fun hc h => ?_) (fun hc h => ?_)
        ·refine sR ?_
         refine a_as ?_
         refine rN ?_
         refine CW.ret ?_
         refine rB ?_
         refine rA ?_
         exact eX h
        ·refine CW.skip ?_
         refine nB ?_
         refine nA ?_
         refine CW.region ?_
         obtain ⟨v7, hv7, h⟩ := bd h
         refine a_add ?_
         refine a_mv ?_
         refine RW.nil ?_
         exact eN h
      ·refine CW.exit ?_
       refine xA ?_
       exact eX h
     ·rcases r8 with r8 | r8
      ·obtain ⟨rfl, hg⟩ := hq
       refine xB ?_
       refine nA ?_
       refine CW.ghost hg ?_
       refine CW.seq ?_
       refine sR ?_
       refine a_mv ?_
       obtain ⟨r9, hr9, h⟩ := bd h
       refine cA Try.call96 (t_impl_relationSides _ _ hr9) ?_
       refine RW.ghost (Ghost.frz 69 (k := 2) (f := (A2 lV)) (g := (A2 lV)) r9 rfl inferInstance) ?_
       refine a_lenr ?_
       refine a_mv ?_
       refine rN ?_
       refine CW.block ?_
       obtain ⟨r15, hr15, h⟩ := bd h
       refine CW.lp (s := 0) (l2_impl_isModule x1 r9) (fun s3 : Int => envL [(1, T.ro ((Pt eSModule) x1)), (69, T.ro ((L 2 (A2 lV)) r9)), (70, I (r9.length : Int)), (71, I s3)]) (fun (x : Unit ⊕ Bool) e E => match x with | (.inl r15) => e = .exit 2 ∧ Ghost ⟨St, W, w0, Try.f58.ntmps⟩ E (envL []) | (.inr r15) => e = .ret ∧ RetG ⟨St, W, w0, Try.f58.ntmps⟩ Try.prog Try.f58.results [T.ro ((Pt eSPresentation) x0), T.ro ((Pt eSModule) x1)] [B r15] [] .ret E) (.has ⟨rfl, rfl, rfl, rfl, trivial⟩) (fun s3 x h => ?_) hr15 (fun e E hq => ?_)
       ·refine sR ?_
        refine a_lss ?_
        refine rN ?_
        refine CW.seq ?_
        refine cn h (fun hc h => ?_) (fun hc h => ?_)
        ·refine CW.skip ?_
         refine nA ?_
         refine CW.seq ?_
         refine CW.block ?_
         refine sR ?_
         obtain ⟨v10, hv10, h⟩ := bd h
         refine a_ixr ?_
         refine a_ldr ?_
         refine a_alloc ?_
         refine oP (x_stp inf_121 rfl (locB rfl rfl) rfl rfl rfl rfl (clean_of (cleanA ⟨trivial, trivial, trivial⟩)) rfl) ?_
         refine rN ?_
         refine CW.seq ?_
         obtain ⟨r11, hr11, h⟩ := bd h
         obtain ⟨r12, hr12, h⟩ := bd h
         obtain ⟨r13, hr13, h⟩ := bd h
         refine CW.dk ?_
         refine d_mv [(1, _)] ?_
         refine dG [(8, _)] [([(76, some (T.addr 8 [0, 0]))], [(76, 0)])] ⟨rfl, trivial⟩ (fun E h => IxOk.opE (x_ixA 0 arr_121 (locB h.1 rfl) rfl rfl rfl) rfl) ?_
         refine d_ld [(76, _), (8, _)] ?_
         refine dC [(75, _), (77, _)] Try.call98 (t_impl_actionOf _ _ _ hr11) ?_
         refine dG [(78, _)] [([(79, some (T.same 78 [2]))], [(79, 0)])] ⟨rfl, trivial⟩ (fun E h => IxOk.opE (x_fld fld_76_2 (fldv_76_2 rfl rfl) h.1 rfl rfl rfl) rfl) ?_
         refine d_mv [(1, _)] ?_
         refine dG [(8, _)] [([(81, some (T.addr 8 [1, 0]))], [(81, 0)])] ⟨rfl, trivial⟩ (fun E h => IxOk.opE (x_ixA 1 arr_121 (locB h.1 rfl) rfl rfl rfl) rfl) ?_
         refine d_ld [(81, _), (8, _)] ?_
         refine dC [(80, _), (82, _)] Try.call98 (t_impl_actionOf _ _ _ hr12) ?_
         refine dG [(83, _)] [([(84, some (T.same 83 [2]))], [(84, 0)])] ⟨rfl, trivial⟩ (fun E h => IxOk.opE (x_fld fld_76_2 (fldv_76_2 rfl rfl) h.1 rfl rfl rfl) rfl) ?_
         refine dC [(79, _), (78, _), (84, _), (83, _)] Try.call97 (t_impl_sameRows _ _ _ hr13) ?_
         refine d_not [(85, _)] ?_
         refine dNA mixedP ?_
         refine nA ?_
         refine cn h (fun hc h => ?_) (fun hc h => ?_)
         ·refine sR ?_
          refine a_as ?_
          refine rN ?_
          refine CW.ret ?_
          refine rB ?_
          refine rA ?_
          exact eX h
         ·refine CW.skip ?_
          refine nB ?_
          refine nA ?_
          refine CW.region ?_
          obtain ⟨v14, hv14, h⟩ := bd h
          refine a_add ?_
          refine a_mv ?_
          refine RW.nil ?_
          exact eN h
        ·refine CW.exit ?_
         refine xA ?_
         exact eX h
       ·rcases r15 with r15 | r15
        ·obtain ⟨rfl, hg⟩ := hq
         refine xB ?_
         refine nA ?_
         refine CW.ghost hg ?_
         refine sR ?_
         refine a_as ?_
         refine rN ?_
         refine CW.ret ?_
         obtain rfl := sI h
         exact rT
        ·obtain ⟨rfl, hq⟩ := hq
         refine rB ?_
         refine rA ?_
         obtain rfl := sI h
         exact hq
      ·obtain ⟨rfl, hq⟩ := hq
       refine rB ?_
       refine rA ?_
       obtain rfl := sI h
       exact hq
theorem t_impl_modulesCode (x0 : SPresentation) (x1 : SModule) (x2 : SModule) (r : Int) (h : f_impl_modulesCode x0 x1 x2 = some r) : FnC Try.prog 36 [T.ro ((Pt eSPresentation) x0), T.ro ((Pt eSModule) x1), T.ro ((Pt eSModule) x2)] [I r] [] := by
 refine fB Try.func36 (fun St W w0 v => ?_)
 refine sR ?_
 refine a_as ?_
 refine rN ?_
 refine CW.seq ?_
 refine sR ?_
 refine a_mv ?_
 refine a_mv ?_
 obtain ⟨r1, hr1, h⟩ := bd h
 refine cA Try.call58 (t_impl_isModule _ _ _ hr1) ?_
 refine a_not ?_
 refine a_mv ?_
 refine RW.cases 11 _ rfl (fun hc => ?_) (fun hc => ?_)
 ·have h := cT hc h
  refine sk2 ?_
  refine sk2 ?_
  refine sk2 ?_
  refine sk2 ?_
  refine a_pick ?_
  refine rN ?_
  refine CW.condT rfl ?_
  refine sR ?_
  refine a_as ?_
  refine rN ?_
  refine CW.ret ?_
  refine rA ?_
  obtain rfl := sI h
  exact rT
 ·have h := cF hc h
  refine g_mv ?_
  refine g_mv ?_
  obtain ⟨r2, hr2, h⟩ := bd h
  refine RW.cons (IxOk.guard 4 false 11 (x_call (xs := [.tmp 12, .tmp 13]) Try.call58 (t_impl_isModule _ _ _ hr2) ⟨(agC _ rfl rfl rfl), ⟨(agC _ rfl rfl rfl), trivial⟩⟩ (resC (f := B) inferInstance resN) rfl)) ?_
  refine g_not ?_
  refine a_pick ?_
  refine rN ?_
  refine cn h (fun hc h => ?_) (fun hc h => ?_)
  ·refine sR ?_
   refine a_as ?_
   refine rN ?_
   refine CW.ret ?_
   refine rA ?_
   obtain rfl := sI h
   exact rT
  ·refine CW.skip ?_
   refine nA ?_
   refine CW.seq ?_
   refine CW.seq ?_
   refine CW.dk ?_
   refine d_mv [(1, _)] ?_
   refine d_nilc [(17, _)] ?_
   refine d_far [(18, _)] ?_
   refine d_ldr [(19, _)] ?_
   refine d_mv [(2, _)] ?_
   refine d_nilc [(21, _)] ?_
   refine d_far [(22, _)] ?_
   refine d_ldr [(23, _)] ?_
   refine d_neq [(20, _), (24, _)] ?_
   refine dNA mixedP ?_
   refine nA ?_
   refine cn h (fun hc h => ?_) (fun hc h => ?_)
   ·refine sR ?_
    refine a_as ?_
    refine rN ?_
    refine CW.ret ?_
    refine rA ?_
    obtain rfl := sI h
    exact rT
   ·refine CW.skip ?_
    refine nA ?_
    refine sR ?_
    refine a_as ?_
    refine rN ?_
    refine CW.ret ?_
    obtain rfl := sI h
    exact rT
theorem t_slices_Grow_int64_int64 (x1 : Int) (r : (List Int)) (h : f_slices_Grow_int64_int64 x1 = some r) : FnC Try.prog 110 [T.lit (.slice none 0 0), I x1] [lV r] [] := by
 refine fB Try.func110 (fun St W w0 v => ?_)
 refine sR ?_
 refine oP (x_nil 1 rfl) ?_
 refine rN ?_
 refine CW.seq ?_
 refine sR ?_
 refine a_mv ?_
 refine a_lss ?_
 refine rN ?_
 refine cn h (fun hc h => ?_) (fun hc h => ?_)
 ·refine CW.region ?_
  cases h
 ·refine CW.skip ?_
  refine nA ?_
  refine CW.seq ?_
  refine sR ?_
  refine a_mv ?_
  refine a_mv ?_
  refine oP (x_capnil Try.underlying22 rfl rfl) ?_
  refine a_mv ?_
  refine oP (x_lennil Try.underlying22 rfl rfl) ?_
  obtain ⟨v1, hv1, h⟩ := bd h
  refine a_sub ?_
  obtain ⟨v2, hv2, h⟩ := bd h
  refine a_sub ?_
  refine a_as ?_
  refine rN ?_
  refine sR ?_
  refine a_mv ?_
  refine a_gtr ?_
  refine rN ?_
  refine cn h (fun hc h => ?_) (fun hc h => ?_)
  ·refine CW.region ?_
   refine a_mv ?_
   refine a_mv ?_
   refine oP (x_capnil Try.underlying22 rfl rfl) ?_
   refine oP (x_slnil elt_22 rfl rfl rfl) ?_
   refine a_mv ?_
   obtain ⟨v3, hv3, h⟩ := bd h
   refine oP (x_appz (f := I) (z := 0) elt_22 Try.underlying3 (rfl) hv3 rfl rfl rfl) ?_
   refine a_mv ?_
   refine oP (x_lennil Try.underlying22 rfl rfl) ?_
   obtain ⟨v4, hv4, h⟩ := bd h
   refine oP (x_cut (f := I) elt_22 hv4 rfl rfl (.inl rfl) rfl) ?_
   refine a_as ?_
   refine RW.ghost (Ghost.tr 0 25 _ rfl rfl (clean_of (cleanL (Enc.clean (f := I)))) rfl) ?_
   refine rN ?_
   refine sR ?_
   refine a_mv ?_
   refine a_as ?_
   refine RW.ghost (Ghost.tr 4 0 _ rfl rfl (clean_of (cleanL (Enc.clean (f := I)))) rfl) ?_
   refine rN ?_
   refine CW.ret ?_
   obtain rfl := sI h
   exact rT
  ·refine CW.skip ?_
   refine nA ?_
   refine sR ?_
   refine a_mv ?_
   refine a_as ?_
   refine rN ?_
   refine CW.ghost (Ghost.nil 4 1 rfl) ?_
   refine CW.ret ?_
   obtain rfl := sI h
   exact rT
theorem t_slices_Concat_int64_int64 (x0 : List (List Int)) (r : (List Int)) (h : f_slices_Concat_int64_int64 x0 = some r) : FnC Try.prog 73 [T.ro (lM x0)] [lV r] [] := by
 refine fB Try.func73 (fun St W w0 v => ?_)
 refine sR ?_
 refine oP (x_nil 1 rfl) ?_
 refine rN ?_
 refine sR ?_
 refine a_as ?_
 refine rN ?_
 refine CW.seq ?_
 refine sR ?_
 refine a_mv ?_
 refine a_lenr ?_
 refine a_mv ?_
 refine rN ?_
 refine CW.block ?_
 obtain ⟨r4, hr4, h⟩ := bd h
 refine CW.lp (s := (0, 0)) (l1_slices_Concat_int64_int64 x0) (fun s1 : Int × Int => envL [(0, T.ro (lM x0)), (3, I s1.1), (9, T.ro (lM x0)), (10, I (x0.length : Int)), (11, I s1.2)]) (fun (r4 : Int) e E => e = .exit 0 ∧ Ghost ⟨St, W, w0, Try.f73.ntmps⟩ E (envL [(0, T.ro (lM x0)), (3, I r4)])) (.has ⟨rfl, rfl, rfl, rfl, rfl, trivial⟩) (fun s1 x h => ?_) hr4 (fun e E hq => ?_)
 ·refine sR ?_
  refine a_lss ?_
  refine rN ?_
  refine CW.seq ?_
  refine cn h (fun hc h => ?_) (fun hc h => ?_)
  ·refine CW.skip ?_
   refine nA ?_
   refine CW.seq ?_
   refine CW.block ?_
   refine sR ?_
   obtain ⟨v1, hv1, h⟩ := bd h
   refine a_ixr ?_
   refine a_ldr ?_
   refine a_as ?_
   refine rN ?_
   refine sR ?_
   refine a_mv ?_
   refine a_mv ?_
   refine a_lenr ?_
   obtain ⟨v2, hv2, h⟩ := bd h
   refine a_add ?_
   refine a_as ?_
   refine rN ?_
   refine sR ?_
   refine a_mv ?_
   refine a_lss ?_
   refine rN ?_
   refine cn h (fun hc h => ?_) (fun hc h => ?_)
   ·refine CW.region ?_
    cases h
   ·refine CW.skip ?_
    refine nB ?_
    refine nA ?_
    refine CW.region ?_
    obtain ⟨v3, hv3, h⟩ := bd h
    refine a_add ?_
    refine a_mv ?_
    refine RW.nil ?_
    exact eN h
  ·refine CW.exit ?_
   refine xA ?_
   exact eX h
 ·obtain ⟨rfl, hg⟩ := hq
  refine xB ?_
  refine nA ?_
  refine CW.ghost hg ?_
  refine sR ?_
  refine a_mv ?_
  obtain ⟨r5, hr5, h⟩ := bd h
  refine cA Try.call110 (t_slices_Grow_int64_int64 _ _ hr5) ?_
  refine a_as ?_
  refine RW.ghost (Ghost.tr 6 24 _ rfl rfl (clean_of (cleanL (Enc.clean (f := I)))) rfl) ?_
  refine rN ?_
  refine CW.seq ?_
  refine sR ?_
  refine a_mv ?_
  refine a_lenr ?_
  refine a_mv ?_
  refine rN ?_
  refine CW.block ?_
  obtain ⟨r9, hr9, h⟩ := bd h
  refine CW.lp (s := (r5, 0)) (l2_slices_Concat_int64_int64 x0) (fun s3 : (List Int) × Int => envL [(6, L 1 I s3.1), (25, T.ro (lM x0)), (26, I (x0.length : Int)), (27, I s3.2)]) (fun (r9 : (List Int)) e E => e = .exit 2 ∧ Ghost ⟨St, W, w0, Try.f73.ntmps⟩ E (envL [(6, L 1 I r9)])) (.has ⟨rfl, rfl, rfl, rfl, trivial⟩) (fun s3 x h => ?_) hr9 (fun e E hq => ?_)
  ·refine sR ?_
   refine a_lss ?_
   refine rN ?_
   refine CW.seq ?_
   refine cn h (fun hc h => ?_) (fun hc h => ?_)
   ·refine CW.skip ?_
    refine nA ?_
    refine CW.seq ?_
    refine CW.block ?_
    refine sR ?_
    obtain ⟨v6, hv6, h⟩ := bd h
    refine a_ixr ?_
    refine a_ldr ?_
    refine a_as ?_
    refine rN ?_
    refine CW.region ?_
    refine a_mv ?_
    refine a_mv ?_
    refine RW.ghost (Ghost.tr 31 6 _ rfl rfl (clean_of (cleanL (Enc.clean (f := I)))) rfl) ?_
    obtain ⟨v7, hv7, h⟩ := bd h
    refine oP (x_appr (f := I) (g := I) elt_22 (fun _ => rfl) (fun _ => rfl) inferInstance hv7 rfl (locB rfl rfl) rfl) ?_
    refine a_as ?_
    refine RW.ghost (Ghost.tr 6 33 _ rfl rfl (clean_of (cleanL (Enc.clean (f := I)))) rfl) ?_
    refine RW.nil ?_
    refine nB ?_
    refine nA ?_
    refine CW.region ?_
    obtain ⟨v8, hv8, h⟩ := bd h
    refine a_add ?_
    refine a_mv ?_
    refine RW.nil ?_
    exact eN h
   ·refine CW.exit ?_
    refine xA ?_
    exact eX h
  ·obtain ⟨rfl, hg⟩ := hq
   refine xB ?_
   refine nA ?_
   refine CW.ghost hg ?_
   refine sR ?_
   refine a_mv ?_
   refine a_as ?_
   refine RW.ghost (Ghost.tr 2 6 _ rfl rfl (clean_of (cleanL (Enc.clean (f := I)))) rfl) ?_
   refine rN ?_
   refine CW.ret ?_
   obtain rfl := sI h
   exact rT
theorem t_impl_padded (x0 : List Int) (x1 : Int) (x2 : Int) (r : (List Int)) (h : f_impl_padded x0 x1 x2 = some r) : FnC Try.prog 37 [T.ro (lV x0), I x1, I x2] [lV r] [] := by
 refine fB Try.func37 (fun St W w0 v => ?_)
 refine sR ?_
 refine oP (x_nil 1 rfl) ?_
 refine rN ?_
 refine CW.seq ?_
 obtain ⟨m1, hm1, h⟩ := bd h
 obtain ⟨m2, hm2, h⟩ := bd h
 obtain ⟨r3, hr3, h⟩ := bd h
 refine CW.dk ?_
 refine d_mv [(1, _)] ?_
 refine dG [(7, _)] [([(8, some (L 1 I (List.replicate m1 (0 : Int))))], [(8, 0)])] ⟨rfl, trivial⟩ (fun E h => IxOk.opE (x_makeL (f := I) (z := 0) elt_22 (rfl) hm1 h.1 h.1 rfl) rfl) ?_
 refine d_mv [(0, _)] ?_
 refine d_mv [(2, _)] ?_
 refine dG [(10, _)] [([(11, some (L 1 I (List.replicate m2 (0 : Int))))], [(11, 0)])] ⟨rfl, trivial⟩ (fun E h => IxOk.opE (x_makeL (f := I) (z := 0) elt_22 (rfl) hm2 h.1 h.1 rfl) rfl) ?_
 refine dG [(8, _), (11, _), (9, _)] [([(8, some (T.ro (lV (List.replicate m1 (0 : Int)))))], [(8, 1)]), ([(11, some (T.ro (lV (List.replicate m2 (0 : Int)))))], [(11, 1)]), ([(12, some (L 1 (Ro lV) [List.replicate m1 (0 : Int), x0, List.replicate m2 (0 : Int)]))], [(12, 0)])] ⟨rfl, rfl, rfl, trivial⟩ (fun E h => IxOk.gh (Ghost.frz 8 (k := 1) (f := I) (g := I) (List.replicate m1 (0 : Int)) h.1 inferInstance) <| IxOk.gh (Ghost.frz 11 (k := 1) (f := I) (g := I) (List.replicate m2 (0 : Int)) (keepE h.2.1) inferInstance) <| IxOk.opE (x_bs elt_23 [.tmp 8, .tmp 9, .tmp 11] [.slot 8 (T.ro (lV (List.replicate m1 (0 : Int)))), .slot 9 (T.ro (lV x0)), .slot 11 (T.ro (lV (List.replicate m2 (0 : Int))))] [List.replicate m1 (0 : Int), x0, List.replicate m2 (0 : Int)] (Ro lV) ⟨.slot _ _, .slot _ _, .slot _ _, trivial⟩ (pkS (keepE rfl) (clean_of trivial) rfl (pkS (keepE (keepE h.2.2.1)) (clean_of trivial) rfl (pkS rfl (clean_of trivial) rfl pkN))) rfl rfl) rfl) ?_
 refine dC [(12, _)] Try.call73 (t_slices_Concat_int64_int64 _ _ hr3) ?_
 refine d_as [(13, _)] ?_
 refine dNA mixedP ?_
 refine nA ?_
 refine CW.ghost (Ghost.tr 6 13 _ rfl rfl (clean_of (cleanL (Enc.clean (f := I)))) rfl) ?_
 refine CW.ret ?_
 obtain rfl := sI h
 exact rT
theorem t_impl_SumModules (x0 : SPresentation) (x1 : SModule) (x2 : SModule) (r : SModule × Int) (h : f_impl_SumModules x0 x1 x2 = some r) : FnC Try.prog 13 [qPresentation x0, qModule x1, qModule x2] [eSModule r.1, I r.2] [] := by
 refine fB Try.func13 (fun St W w0 v => ?_)
 refine sR ?_
 refine a_box ?_
 refine a_box ?_
 refine a_box ?_
 refine a_alloc ?_
 refine a_as ?_
 refine rN ?_
 refine CW.seq ?_
 refine sR ?_
 obtain ⟨r1, hr1, h⟩ := bd h
 refine oP (x_call (xs := [.tmp 3, .tmp 4, .tmp 5]) Try.call36 (t_impl_modulesCode _ _ _ _ hr1) ⟨(agC _ rfl (cloP rfl) rfl), ⟨(agC _ rfl (cloP rfl) rfl), ⟨(agC _ rfl (cloP rfl) rfl), trivial⟩⟩⟩ (resC (f := I) inferInstance resN) rfl) ?_
 refine a_as ?_
 refine rN ?_
 refine sR ?_
 refine a_mv ?_
 refine a_neq ?_
 refine rN ?_
 refine cn h (fun hc h => ?_) (fun hc h => ?_)
 ·refine sR ?_
  refine oP (x_build bld_31 [] [] [.zero (I 0), .zero (I 0), .zero (L 1 lM [])] (pkZ rfl (pkZ rfl (pkZ rfl pkN))) bqN rfl) ?_
  refine a_mv ?_
  refine oP (x_stp inf_31 rfl (locB rfl rfl) rfl rfl rfl rfl (clean_of (cleanA ⟨(Enc.clean (f := I) _), (Enc.clean (f := I) _), trivial, trivial⟩)) rfl) ?_
  refine a_as ?_
  refine rN ?_
  refine CW.ret ?_
  refine rA ?_
  obtain rfl := sI h
  exact ⟨_, Ghost.refl, ⟨.inl rfl, [(6, [0], T.agg [I 0, I 0, L 1 lM []]), (7, [], I r1)], ⟨⟨rfl, rfl, rfl, (var_31.h _ rfl rfl).h⟩, ⟨rfl, rfl, rfl, rfl⟩, trivial⟩, rfl, (by simp), (by simp), trivial⟩⟩
 ·refine CW.skip ?_
  refine nA ?_
  refine CW.seq ?_
  refine sR ?_
  refine a_fa ?_
  refine a_ld ?_
  refine a_fa ?_
  refine a_ld ?_
  obtain ⟨v2, hv2, h⟩ := bd h
  refine oP (x_add hv2 rfl rfl rfl) ?_
  refine a_gtr ?_
  refine rN ?_
  refine cn h (fun hc h => ?_) (fun hc h => ?_)
  ·refine sR ?_
   refine oP (x_build bld_31 [] [] [.zero (I 0), .zero (I 0), .zero (L 1 lM [])] (pkZ rfl (pkZ rfl (pkZ rfl pkN))) bqN rfl) ?_
   refine oP (x_stp inf_31 rfl (locB rfl rfl) rfl rfl rfl rfl (clean_of (cleanA ⟨(Enc.clean (f := I) _), (Enc.clean (f := I) _), trivial, trivial⟩)) rfl) ?_
   refine a_as ?_
   refine rN ?_
   refine CW.ret ?_
   refine rA ?_
   obtain rfl := sI h
   exact ⟨_, Ghost.refl, ⟨.inl rfl, [(6, [0], T.agg [I 0, I 0, L 1 lM []]), (7, [], I 3)], ⟨⟨rfl, rfl, rfl, (var_31.h _ rfl rfl).h⟩, ⟨rfl, rfl, rfl, rfl⟩, trivial⟩, rfl, (by simp), (by simp), trivial⟩⟩
  ·refine CW.skip ?_
   refine nA ?_
   refine sR ?_
   refine a_fa ?_
   refine a_ld ?_
   refine a_fa ?_
   refine a_ld ?_
   refine a_fa ?_
   refine a_ld ?_
   obtain ⟨v3, hv3, h⟩ := bd h
   refine oP (x_add hv3 rfl rfl rfl) ?_
   refine oP (x_build bld_31 [(0, .tmp 29), (1, .tmp 34)] [(0, .slot 29 (I x1.Prime)), (1, .slot 34 (I v3))] [.slot 29 (I x1.Prime), .slot 34 (I v3), .zero (L 1 lM [])] (pkS rfl (clean_of (Enc.clean (f := I) _)) rfl (pkS rfl (clean_of (Enc.clean (f := I) _)) rfl (pkZ rfl pkN))) (bqC (.slot _ _) (bqC (.slot _ _) bqN)) rfl) ?_
   refine a_alloc ?_
   refine oP (x_stp inf_31 rfl (locB rfl rfl) rfl rfl rfl rfl (clean_of (cleanA ⟨(Enc.clean (f := I) _), (Enc.clean (f := I) _), trivial, trivial⟩)) rfl) ?_
   refine rN ?_
   refine CW.seq ?_
   refine CW.seq ?_
   refine CW.to [(3, T.ptr (qPresentation x0)), (4, T.ptr (qModule x1)), (5, T.ptr (qModule x2)), (6, T.ptr (T.agg [I 0, I 0, L 1 lM []])), (9, T.ptr (T.agg [I x1.Prime, I v3, L 1 lM []]))] ⟨rfl, rfl, rfl, rfl, rfl, trivial⟩ ?_
   refine CW.region ?_
   refine a_fa ?_
   refine a_ld ?_
   refine a_lenr ?_
   refine a_mv ?_
   refine rN ?_
   refine CW.block ?_
   obtain ⟨r18, hr18, h⟩ := bd h
   refine CW.lp (s := ([], 0)) (l3_impl_SumModules x0 x1 x2) (fun s9 : (List (List (List Int))) × Int => envL [(4, T.ptr (qModule x1)), (5, T.ptr (qModule x2)), (6, T.ptr (T.agg [I 0, I 0, L 1 lM []])), (9, T.ptr (T.agg [I x1.Prime, I v3, L 1 lM s9.1])), (38, I (x0.Orders.length : Int)), (39, I s9.2)]) (fun (r18 : (List (List (List Int)))) e E => e = .exit 0 ∧ Ghost ⟨St, W, w0, Try.f13.ntmps⟩ E (envL [(6, T.ptr (T.agg [I 0, I 0, L 1 lM []])), (9, T.ptr (T.agg [I x1.Prime, I v3, L 1 lM r18]))])) (.has ⟨rfl, rfl, rfl, rfl, rfl, rfl, trivial⟩) (fun s9 x h => ?_) hr18 (fun e E hq => ?_)
   ·refine sR ?_
    refine a_lss ?_
    refine rN ?_
    refine CW.seq ?_
    refine cn h (fun hc h => ?_) (fun hc h => ?_)
    ·refine CW.skip ?_
     refine nA ?_
     refine CW.seq ?_
     refine CW.block ?_
     refine sR ?_
     refine a_mv ?_
     refine a_as ?_
     refine rN ?_
     refine sR ?_
     refine oP (x_nil 1 rfl) ?_
     refine rN ?_
     refine CW.seq ?_
     refine sR ?_
     refine a_fa ?_
     refine a_ld ?_
     refine a_mv ?_
     obtain ⟨v4, hv4, h⟩ := bd h
     refine a_ixr ?_
     refine a_ldr ?_
     refine a_lenr ?_
     refine a_mv ?_
     refine rN ?_
     refine CW.block ?_
     obtain ⟨r9, hr9, h⟩ := bd h
     refine CW.lp (s := ([], 0)) (l1_impl_SumModules x2 v4) (fun s10 : (List (List Int)) × Int => envL [(4, T.ptr (qModule x1)), (5, T.ptr (qModule x2)), (6, T.ptr (T.agg [I 0, I 0, L 1 lM []])), (9, T.ptr (T.agg [I x1.Prime, I v3, L 1 lM s9.1])), (10, I s9.2), (11, L 1 lV s10.1), (38, I (x0.Orders.length : Int)), (39, I s9.2), (46, T.ro (lM v4)), (47, I (v4.length : Int)), (48, I s10.2)]) (fun (r9 : (List (List Int))) e E => e = .exit 2 ∧ Ghost ⟨St, W, w0, Try.f13.ntmps⟩ E (envL [(4, T.ptr (qModule x1)), (5, T.ptr (qModule x2)), (6, T.ptr (T.agg [I 0, I 0, L 1 lM []])), (9, T.ptr (T.agg [I x1.Prime, I v3, L 1 lM s9.1])), (10, I s9.2), (11, L 1 lV r9), (38, I (x0.Orders.length : Int)), (39, I s9.2)])) (.has ⟨rfl, rfl, rfl, rfl, rfl, rfl, rfl, rfl, rfl, rfl, rfl, trivial⟩) (fun s10 x h => ?_) hr9 (fun e E hq => ?_)
     ·refine sR ?_
      refine a_lss ?_
      refine rN ?_
      refine CW.seq ?_
      refine cn h (fun hc h => ?_) (fun hc h => ?_)
      ·refine CW.skip ?_
       refine nA ?_
       refine CW.seq ?_
       refine CW.block ?_
       refine sR ?_
       obtain ⟨v5, hv5, h⟩ := bd h
       refine a_ixr ?_
       refine a_ldr ?_
       refine a_as ?_
       refine rN ?_
       refine CW.region ?_
       refine a_mv ?_
       refine a_mv ?_
       refine a_fa ?_
       refine a_ld ?_
       obtain ⟨r6, hr6, h⟩ := bd h
       refine cA Try.call37 (t_impl_padded _ _ _ _ hr6) ?_
       refine oP (x_bs elt_23 [.tmp 56] [.slot 56 (L 1 I r6)] [r6] lV ⟨.slot _ _, trivial⟩ (pkS rfl (clean_of (cleanL (Enc.clean (f := I)))) rfl pkN) rfl rfl) ?_
       refine RW.ghost (Ghost.tr 52 11 _ rfl rfl (clean_of (cleanL (Enc.clean (f := lV)))) rfl) ?_
       obtain ⟨v7, hv7, h⟩ := bd h
       refine oP (x_appm (f := lV) elt_23 hv7 rfl rfl rfl) ?_
       refine a_as ?_
       refine RW.ghost (Ghost.tr 11 58 _ rfl rfl (clean_of (cleanL (Enc.clean (f := lV)))) rfl) ?_
       refine RW.nil ?_
       refine nB ?_
       refine nA ?_
       refine CW.region ?_
       obtain ⟨v8, hv8, h⟩ := bd h
       refine a_add ?_
       refine a_mv ?_
       refine RW.nil ?_
       exact eN h
      ·refine CW.exit ?_
       refine xA ?_
       exact eX h
     ·obtain ⟨rfl, hg⟩ := hq
      refine xB ?_
      refine nA ?_
      refine CW.ghost hg ?_
      refine CW.seq ?_
      refine sR ?_
      refine a_fa ?_
      refine a_ld ?_
      refine a_mv ?_
      obtain ⟨v10, hv10, h⟩ := bd h
      refine a_ixr ?_
      refine a_ldr ?_
      refine a_lenr ?_
      refine a_mv ?_
      refine rN ?_
      refine CW.block ?_
      obtain ⟨r15, hr15, h⟩ := bd h
      refine CW.lp (s := (r9, 0)) (l2_impl_SumModules x1 v10) (fun s12 : (List (List Int)) × Int => envL [(4, T.ptr (qModule x1)), (5, T.ptr (qModule x2)), (6, T.ptr (T.agg [I 0, I 0, L 1 lM []])), (9, T.ptr (T.agg [I x1.Prime, I v3, L 1 lM s9.1])), (11, L 1 lV s12.1), (38, I (x0.Orders.length : Int)), (39, I s9.2), (64, T.ro (lM v10)), (65, I (v10.length : Int)), (66, I s12.2)]) (fun (r15 : (List (List Int))) e E => e = .exit 4 ∧ Ghost ⟨St, W, w0, Try.f13.ntmps⟩ E (envL [(4, T.ptr (qModule x1)), (5, T.ptr (qModule x2)), (6, T.ptr (T.agg [I 0, I 0, L 1 lM []])), (9, T.ptr (T.agg [I x1.Prime, I v3, L 1 lM s9.1])), (11, L 1 lV r15), (38, I (x0.Orders.length : Int)), (39, I s9.2)])) (.has ⟨rfl, rfl, rfl, rfl, rfl, rfl, rfl, rfl, rfl, rfl, trivial⟩) (fun s12 x h => ?_) hr15 (fun e E hq => ?_)
      ·refine sR ?_
       refine a_lss ?_
       refine rN ?_
       refine CW.seq ?_
       refine cn h (fun hc h => ?_) (fun hc h => ?_)
       ·refine CW.skip ?_
        refine nA ?_
        refine CW.seq ?_
        refine CW.block ?_
        refine sR ?_
        obtain ⟨v11, hv11, h⟩ := bd h
        refine a_ixr ?_
        refine a_ldr ?_
        refine a_as ?_
        refine rN ?_
        refine CW.region ?_
        refine a_mv ?_
        refine a_mv ?_
        refine a_fa ?_
        refine a_ld ?_
        obtain ⟨r12, hr12, h⟩ := bd h
        refine cA Try.call37 (t_impl_padded _ _ _ _ hr12) ?_
        refine oP (x_bs elt_23 [.tmp 74] [.slot 74 (L 1 I r12)] [r12] lV ⟨.slot _ _, trivial⟩ (pkS rfl (clean_of (cleanL (Enc.clean (f := I)))) rfl pkN) rfl rfl) ?_
        refine RW.ghost (Ghost.tr 70 11 _ rfl rfl (clean_of (cleanL (Enc.clean (f := lV)))) rfl) ?_
        obtain ⟨v13, hv13, h⟩ := bd h
        refine oP (x_appm (f := lV) elt_23 hv13 rfl rfl rfl) ?_
        refine a_as ?_
        refine RW.ghost (Ghost.tr 11 76 _ rfl rfl (clean_of (cleanL (Enc.clean (f := lV)))) rfl) ?_
        refine RW.nil ?_
        refine nB ?_
        refine nA ?_
        refine CW.region ?_
        obtain ⟨v14, hv14, h⟩ := bd h
        refine a_add ?_
        refine a_mv ?_
        refine RW.nil ?_
        exact eN h
       ·refine CW.exit ?_
        refine xA ?_
        exact eX h
      ·obtain ⟨rfl, hg⟩ := hq
       refine xB ?_
       refine nA ?_
       refine CW.ghost hg ?_
       refine CW.region ?_
       refine a_fa ?_
       refine a_ld ?_
       refine a_mv ?_
       refine RW.ghost (Ghost.tr 80 11 _ rfl rfl (clean_of (cleanL (Enc.clean (f := lV)))) rfl) ?_
       refine oP (x_bs elt_24 [.tmp 80] [.slot 80 (L 1 lV r15)] [r15] lM ⟨.slot _ _, trivial⟩ (pkS rfl (clean_of (cleanL (Enc.clean (f := lV)))) rfl pkN) rfl rfl) ?_
       refine RW.ghost (Ghost.trq 79 9 [2, 0] rfl rfl rfl (clean_of (cleanL (Enc.clean (f := lM)))) rfl) ?_
       obtain ⟨v16, hv16, h⟩ := bd h
       refine oP (x_appm (f := lM) elt_24 hv16 rfl rfl rfl) ?_
       refine a_fa ?_
       refine oP (x_st inf_24 rfl rfl rfl rfl rfl rfl (clean_of (cleanL (Enc.clean (f := lM)))) rfl) ?_
       refine RW.nil ?_
       refine nB ?_
       refine nA ?_
       refine CW.region ?_
       obtain ⟨v17, hv17, h⟩ := bd h
       refine a_add ?_
       refine a_mv ?_
       refine RW.nil ?_
       exact eN h
    ·refine CW.exit ?_
     refine xA ?_
     exact eX h
   ·obtain ⟨rfl, hg⟩ := hq
    refine xB ?_
    refine nA ?_
    refine CW.ghost hg ?_
    refine sR ?_
    refine a_ldp ?_
    refine RW.ghost (Ghost.trf 85 [2] 9 [2, 0] _ _ rfl rfl rfl rfl rfl (clean_of (cleanL (Enc.clean (f := lM)))) rfl) ?_
    refine oP (x_stp inf_31 rfl (locB rfl rfl) rfl rfl rfl rfl (clean_of (cleanA ⟨(Enc.clean (f := I) _), (Enc.clean (f := I) _), (cleanL (Enc.clean (f := lM))), trivial⟩)) rfl) ?_
    refine a_as ?_
    refine rN ?_
    refine CW.ret ?_
    obtain rfl := sI h
    exact ⟨_, Ghost.refl, ⟨.inl rfl, [(6, [0], T.agg [I x1.Prime, I v3, L 1 lM r18]), (7, [], I 0)], ⟨⟨rfl, rfl, rfl, (var_31.h _ rfl rfl).h⟩, ⟨rfl, rfl, rfl, rfl⟩, trivial⟩, rfl, (by simp), (by simp), trivial⟩⟩
theorem t_laws_eqInt64S (x0 : List Int) (x1 : List Int) (r : Bool) (h : f_laws_eqInt64S x0 x1 = some r) : FnC Try.prog 39 [T.ro (lV x0), T.ro (lV x1)] [B r] [] := by
 refine fB Try.func39 (fun St W w0 v => ?_)
 refine sR ?_
 refine a_as ?_
 refine rN ?_
 refine CW.seq ?_
 refine sR ?_
 refine a_mv ?_
 refine a_lenr ?_
 refine a_mv ?_
 refine a_lenr ?_
 refine a_neq ?_
 refine rN ?_
 refine cn h (fun hc h => ?_) (fun hc h => ?_)
 ·refine sR ?_
  refine a_as ?_
  refine rN ?_
  refine CW.ret ?_
  refine rA ?_
  obtain rfl := sI h
  exact rT
 ·refine CW.skip ?_
  refine nA ?_
  refine CW.seq ?_
  refine sR ?_
  refine a_as ?_
  refine rN ?_
  refine CW.block ?_
  obtain ⟨r4, hr4, h⟩ := bd h
  refine CW.lp (s := 0) (l1_laws_eqInt64S x0 x1) (fun s1 : Int => envL [(0, T.ro (lV x0)), (1, T.ro (lV x1)), (5, I s1)]) (fun (x : Unit ⊕ Bool) e E => match x with | (.inl r4) => e = .exit 0 ∧ Ghost ⟨St, W, w0, Try.f39.ntmps⟩ E (envL []) | (.inr r4) => e = .ret ∧ RetG ⟨St, W, w0, Try.f39.ntmps⟩ Try.prog Try.f39.results [T.ro (lV x0), T.ro (lV x1)] [B r4] [] .ret E) (.has ⟨rfl, rfl, rfl, trivial⟩) (fun s1 x h => ?_) hr4 (fun e E hq => ?_)
  ·refine CW.seq ?_
   refine sR ?_
   refine a_mv ?_
   refine a_mv ?_
   refine a_lenr ?_
   refine a_lss ?_
   refine rN ?_
   refine cn h (fun hc h => ?_) (fun hc h => ?_)
   ·refine CW.skip ?_
    refine nA ?_
    refine CW.seq ?_
    refine CW.block ?_
    refine CW.seq ?_
    obtain ⟨v1, hv1, h⟩ := bd h
    obtain ⟨v2, hv2, h⟩ := bd h
    refine CW.dk ?_
    refine d_mv [(0, _)] ?_
    refine d_mv [(5, _)] ?_
    refine d_ixr [(17, _), (18, _)] ?_
    refine d_ldr [(19, _)] ?_
    refine d_mv [(1, _)] ?_
    refine d_mv [(5, _)] ?_
    refine d_ixr [(21, _), (22, _)] ?_
    refine d_ldr [(23, _)] ?_
    refine d_neq [(20, _), (24, _)] ?_
    refine dNA mixedP ?_
    refine nA ?_
    refine cn h (fun hc h => ?_) (fun hc h => ?_)
    ·refine sR ?_
     refine a_as ?_
     refine rN ?_
     refine CW.ret ?_
     refine rB ?_
     refine rA ?_
     exact eX h
    ·refine CW.skip ?_
     refine nB ?_
     refine nA ?_
     refine CW.region ?_
     refine a_mv ?_
     obtain ⟨v3, hv3, h⟩ := bd h
     refine a_add ?_
     refine a_as ?_
     refine RW.nil ?_
     exact eN h
   ·refine CW.exit ?_
    refine xA ?_
    exact eX h
  ·rcases r4 with r4 | r4
   ·obtain ⟨rfl, hg⟩ := hq
    refine xB ?_
    refine nA ?_
    refine CW.ghost hg ?_
    refine sR ?_
    refine a_as ?_
    refine rN ?_
    refine CW.ret ?_
    obtain rfl := sI h
    exact rT
   ·obtain ⟨rfl, hq⟩ := hq
    refine rB ?_
    refine rA ?_
    obtain rfl := sI h
    exact hq
theorem t_laws_eqInt64SS (x0 : List (List Int)) (x1 : List (List Int)) (r : Bool) (h : f_laws_eqInt64SS x0 x1 = some r) : FnC Try.prog 40 [T.ro (lM x0), T.ro (lM x1)] [B r] [] := by
 refine fB Try.func40 (fun St W w0 v => ?_)
 refine sR ?_
 refine a_as ?_
 refine rN ?_
 refine CW.seq ?_
 refine sR ?_
 refine a_mv ?_
 refine a_lenr ?_
 refine a_mv ?_
 refine a_lenr ?_
 refine a_neq ?_
 refine rN ?_
 refine cn h (fun hc h => ?_) (fun hc h => ?_)
 ·refine sR ?_
  refine a_as ?_
  refine rN ?_
  refine CW.ret ?_
  refine rA ?_
  obtain rfl := sI h
  exact rT
 ·refine CW.skip ?_
  refine nA ?_
  refine CW.seq ?_
  refine sR ?_
  refine a_as ?_
  refine rN ?_
  refine CW.block ?_
  obtain ⟨r5, hr5, h⟩ := bd h
  refine CW.lp (s := 0) (l1_laws_eqInt64SS x0 x1) (fun s1 : Int => envL [(0, T.ro (lM x0)), (1, T.ro (lM x1)), (5, I s1)]) (fun (x : Unit ⊕ Bool) e E => match x with | (.inl r5) => e = .exit 0 ∧ Ghost ⟨St, W, w0, Try.f40.ntmps⟩ E (envL []) | (.inr r5) => e = .ret ∧ RetG ⟨St, W, w0, Try.f40.ntmps⟩ Try.prog Try.f40.results [T.ro (lM x0), T.ro (lM x1)] [B r5] [] .ret E) (.has ⟨rfl, rfl, rfl, trivial⟩) (fun s1 x h => ?_) hr5 (fun e E hq => ?_)
  ·refine CW.seq ?_
   refine sR ?_
   refine a_mv ?_
   refine a_mv ?_
   refine a_lenr ?_
   refine a_lss ?_
   refine rN ?_
   refine cn h (fun hc h => ?_) (fun hc h => ?_)
   ·refine CW.skip ?_
    refine nA ?_
    refine CW.seq ?_
    refine CW.block ?_
    refine CW.seq ?_
    obtain ⟨v1, hv1, h⟩ := bd h
    obtain ⟨v2, hv2, h⟩ := bd h
    obtain ⟨r3, hr3, h⟩ := bd h
    refine CW.dk ?_
    refine d_mv [(0, _)] ?_
    refine d_mv [(5, _)] ?_
    refine d_ixr [(17, _), (18, _)] ?_
    refine d_ldr [(19, _)] ?_
    refine d_mv [(1, _)] ?_
    refine d_mv [(5, _)] ?_
    refine d_ixr [(21, _), (22, _)] ?_
    refine d_ldr [(23, _)] ?_
    refine dC [(20, _), (24, _)] Try.call39 (t_laws_eqInt64S _ _ _ hr3) ?_
    refine d_not [(25, _)] ?_
    refine dNA mixedP ?_
    refine nA ?_
    refine cn h (fun hc h => ?_) (fun hc h => ?_)
    ·refine sR ?_
     refine a_as ?_
     refine rN ?_
     refine CW.ret ?_
     refine rB ?_
     refine rA ?_
     exact eX h
    ·refine CW.skip ?_
     refine nB ?_
     refine nA ?_
     refine CW.region ?_
     refine a_mv ?_
     obtain ⟨v4, hv4, h⟩ := bd h
     refine a_add ?_
     refine a_as ?_
     refine RW.nil ?_
     exact eN h
   ·refine CW.exit ?_
    refine xA ?_
    exact eX h
  ·rcases r5 with r5 | r5
   ·obtain ⟨rfl, hg⟩ := hq
    refine xB ?_
    refine nA ?_
    refine CW.ghost hg ?_
    refine sR ?_
    refine a_as ?_
    refine rN ?_
    refine CW.ret ?_
    obtain rfl := sI h
    exact rT
   ·obtain ⟨rfl, hq⟩ := hq
    refine rB ?_
    refine rA ?_
    obtain rfl := sI h
    exact hq
theorem t_laws_eqInt64SSS (x0 : List (List (List Int))) (x1 : List (List (List Int))) (r : Bool) (h : f_laws_eqInt64SSS x0 x1 = some r) : FnC Try.prog 38 [T.ro (lC x0), T.ro (lC x1)] [B r] [] := by
 refine fB Try.func38 (fun St W w0 v => ?_)
 refine sR ?_
 refine a_as ?_
 refine rN ?_
 refine CW.seq ?_
 refine sR ?_
 refine a_mv ?_
 refine a_lenr ?_
 refine a_mv ?_
 refine a_lenr ?_
 refine a_neq ?_
 refine rN ?_
 refine cn h (fun hc h => ?_) (fun hc h => ?_)
 ·refine sR ?_
  refine a_as ?_
  refine rN ?_
  refine CW.ret ?_
  refine rA ?_
  obtain rfl := sI h
  exact rT
 ·refine CW.skip ?_
  refine nA ?_
  refine CW.seq ?_
  refine sR ?_
  refine a_as ?_
  refine rN ?_
  refine CW.block ?_
  obtain ⟨r5, hr5, h⟩ := bd h
  refine CW.lp (s := 0) (l1_laws_eqInt64SSS x0 x1) (fun s1 : Int => envL [(0, T.ro (lC x0)), (1, T.ro (lC x1)), (5, I s1)]) (fun (x : Unit ⊕ Bool) e E => match x with | (.inl r5) => e = .exit 0 ∧ Ghost ⟨St, W, w0, Try.f38.ntmps⟩ E (envL []) | (.inr r5) => e = .ret ∧ RetG ⟨St, W, w0, Try.f38.ntmps⟩ Try.prog Try.f38.results [T.ro (lC x0), T.ro (lC x1)] [B r5] [] .ret E) (.has ⟨rfl, rfl, rfl, trivial⟩) (fun s1 x h => ?_) hr5 (fun e E hq => ?_)
  ·refine CW.seq ?_
   refine sR ?_
   refine a_mv ?_
   refine a_mv ?_
   refine a_lenr ?_
   refine a_lss ?_
   refine rN ?_
   refine cn h (fun hc h => ?_) (fun hc h => ?_)
   ·refine CW.skip ?_
    refine nA ?_
    refine CW.seq ?_
    refine CW.block ?_
    refine CW.seq ?_
    obtain ⟨v1, hv1, h⟩ := bd h
    obtain ⟨v2, hv2, h⟩ := bd h
    obtain ⟨r3, hr3, h⟩ := bd h
    refine CW.dk ?_
    refine d_mv [(0, _)] ?_
    refine d_mv [(5, _)] ?_
    refine d_ixr [(17, _), (18, _)] ?_
    refine d_ldr [(19, _)] ?_
    refine d_mv [(1, _)] ?_
    refine d_mv [(5, _)] ?_
    refine d_ixr [(21, _), (22, _)] ?_
    refine d_ldr [(23, _)] ?_
    refine dC [(20, _), (24, _)] Try.call40 (t_laws_eqInt64SS _ _ _ hr3) ?_
    refine d_not [(25, _)] ?_
    refine dNA mixedP ?_
    refine nA ?_
    refine cn h (fun hc h => ?_) (fun hc h => ?_)
    ·refine sR ?_
     refine a_as ?_
     refine rN ?_
     refine CW.ret ?_
     refine rB ?_
     refine rA ?_
     exact eX h
    ·refine CW.skip ?_
     refine nB ?_
     refine nA ?_
     refine CW.region ?_
     refine a_mv ?_
     obtain ⟨v4, hv4, h⟩ := bd h
     refine a_add ?_
     refine a_as ?_
     refine RW.nil ?_
     exact eN h
   ·refine CW.exit ?_
    refine xA ?_
    exact eX h
  ·rcases r5 with r5 | r5
   ·obtain ⟨rfl, hg⟩ := hq
    refine xB ?_
    refine nA ?_
    refine CW.ghost hg ?_
    refine sR ?_
    refine a_as ?_
    refine rN ?_
    refine CW.ret ?_
    obtain rfl := sI h
    exact rT
   ·obtain ⟨rfl, hq⟩ := hq
    refine rB ?_
    refine rA ?_
    obtain rfl := sI h
    exact hq
theorem t_laws_eqModule (x0 : SModule) (x1 : SModule) (r : Bool) (h : f_laws_eqModule x0 x1 = some r) : FnC Try.prog 14 [qModule x0, qModule x1] [B r] [] := by
 refine fB Try.func14 (fun St W w0 v => ?_)
 refine sR ?_
 refine a_box ?_
 refine a_box ?_
 refine a_as ?_
 refine rN ?_
 refine CW.seq ?_
 refine sR ?_
 refine a_fa ?_
 refine a_ld ?_
 refine a_fa ?_
 refine a_ld ?_
 refine a_neq ?_
 refine rN ?_
 refine cn h (fun hc h => ?_) (fun hc h => ?_)
 ·refine sR ?_
  refine a_as ?_
  refine rN ?_
  refine CW.ret ?_
  refine rA ?_
  obtain rfl := sI h
  exact rT
 ·refine CW.skip ?_
  refine nA ?_
  refine CW.seq ?_
  refine sR ?_
  refine a_fa ?_
  refine a_ld ?_
  refine a_fa ?_
  refine a_ld ?_
  refine a_neq ?_
  refine rN ?_
  refine cn h (fun hc h => ?_) (fun hc h => ?_)
  ·refine sR ?_
   refine a_as ?_
   refine rN ?_
   refine CW.ret ?_
   refine rA ?_
   obtain rfl := sI h
   exact rT
  ·refine CW.skip ?_
   refine nA ?_
   refine CW.seq ?_
   refine sR ?_
   refine a_fa ?_
   refine a_ld ?_
   refine a_fa ?_
   refine a_ld ?_
   obtain ⟨r1, hr1, h⟩ := bd h
   refine cA Try.call38 (t_laws_eqInt64SSS _ _ _ hr1) ?_
   refine a_not ?_
   refine rN ?_
   refine cn h (fun hc h => ?_) (fun hc h => ?_)
   ·refine sR ?_
    refine a_as ?_
    refine rN ?_
    refine CW.ret ?_
    refine rA ?_
    obtain rfl := sI h
    exact rT
   ·refine CW.skip ?_
    refine nA ?_
    refine sR ?_
    refine a_as ?_
    refine rN ?_
    refine CW.ret ?_
    obtain rfl := sI h
    exact rT
theorem t_laws_eqPresentation (x0 : SPresentation) (x1 : SPresentation) (r : Bool) (h : f_laws_eqPresentation x0 x1 = some r) : FnC Try.prog 15 [qPresentation x0, qPresentation x1] [B r] [] := by
 refine fB Try.func15 (fun St W w0 v => ?_)
 refine sR ?_
 refine a_box ?_
 refine a_box ?_
 refine a_as ?_
 refine rN ?_
 refine CW.seq ?_
 refine sR ?_
 refine a_fa ?_
 refine a_ld ?_
 refine a_fa ?_
 refine a_ld ?_
 obtain ⟨r1, hr1, h⟩ := bd h
 refine cA Try.call39 (t_laws_eqInt64S _ _ _ hr1) ?_
 refine a_not ?_
 refine rN ?_
 refine cn h (fun hc h => ?_) (fun hc h => ?_)
 ·refine sR ?_
  refine a_as ?_
  refine rN ?_
  refine CW.ret ?_
  refine rA ?_
  obtain rfl := sI h
  exact rT
 ·refine CW.skip ?_
  refine nA ?_
  refine CW.seq ?_
  refine sR ?_
  refine a_fa ?_
  refine a_ld ?_
  refine a_fa ?_
  refine a_ld ?_
  obtain ⟨r2, hr2, h⟩ := bd h
  refine cA Try.call40 (t_laws_eqInt64SS _ _ _ hr2) ?_
  refine a_not ?_
  refine rN ?_
  refine cn h (fun hc h => ?_) (fun hc h => ?_)
  ·refine sR ?_
   refine a_as ?_
   refine rN ?_
   refine CW.ret ?_
   refine rA ?_
   obtain rfl := sI h
   exact rT
  ·refine CW.skip ?_
   refine nA ?_
   refine CW.seq ?_
   refine sR ?_
   refine a_fa ?_
   refine a_ld ?_
   refine a_fa ?_
   refine a_ld ?_
   obtain ⟨r3, hr3, h⟩ := bd h
   refine cA Try.call38 (t_laws_eqInt64SSS _ _ _ hr3) ?_
   refine a_not ?_
   refine rN ?_
   refine cn h (fun hc h => ?_) (fun hc h => ?_)
   ·refine sR ?_
    refine a_as ?_
    refine rN ?_
    refine CW.ret ?_
    refine rA ?_
    obtain rfl := sI h
    exact rT
   ·refine CW.skip ?_
    refine nA ?_
    refine sR ?_
    refine a_as ?_
    refine rN ?_
    refine CW.ret ?_
    obtain rfl := sI h
    exact rT
theorem t_laws_markInt64S (x0 : List Int) (x1 : Int) (r : Int × (List Int)) (h : f_laws_markInt64S x0 x1 = some r) : FnC Try.prog 41 [L 1 I x0, I x1] [I r.1] [(0, lV r.2)] := by
 refine fB Try.func41 (fun St W w0 v => ?_)
 refine sR ?_
 refine a_as ?_
 refine rN ?_
 refine CW.seq ?_
 refine sR ?_
 refine a_as ?_
 refine rN ?_
 refine CW.block ?_
 obtain ⟨r4, hr4, h⟩ := bd h
 refine CW.lp (s := (x0, x1, 0)) l1_laws_markInt64S (fun s1 : (List Int) × Int × Int => envL [(0, L 1 I s1.1), (1, I s1.2.1), (5, I s1.2.2)]) (fun (r4 : ((List Int) × Int)) e E => e = .exit 0 ∧ Ghost ⟨St, W, w0, Try.f41.ntmps⟩ E (envL [(0, L 1 I r4.1), (1, I r4.2)])) (.has ⟨rfl, rfl, rfl, trivial⟩) (fun s1 x h => ?_) hr4 (fun e E hq => ?_)
 ·refine CW.seq ?_
  refine sR ?_
  refine a_mv ?_
  refine a_mv ?_
  refine a_len ?_
  refine a_lss ?_
  refine rN ?_
  refine cn h (fun hc h => ?_) (fun hc h => ?_)
  ·refine CW.skip ?_
   refine nA ?_
   refine CW.seq ?_
   refine CW.block ?_
   refine sR ?_
   refine a_mv ?_
   refine a_mv ?_
   refine a_mv ?_
   obtain ⟨v1, hv1, h⟩ := bd h
   refine a_ix ?_
   refine oP (x_st inf_2 rfl rfl rfl (getc hv1 rfl) (setc hv1 rfl) rfl (clean_of (Enc.clean (f := I) _)) rfl) ?_
   refine rN ?_
   refine CW.region ?_
   refine a_mv ?_
   obtain ⟨v2, hv2, h⟩ := bd h
   refine a_add ?_
   refine a_as ?_
   refine RW.nil ?_
   refine nB ?_
   refine nA ?_
   refine CW.region ?_
   refine a_mv ?_
   obtain ⟨v3, hv3, h⟩ := bd h
   refine a_add ?_
   refine a_as ?_
   refine RW.nil ?_
   exact eN h
  ·refine CW.exit ?_
   refine xA ?_
   exact eX h
 ·obtain ⟨rfl, hg⟩ := hq
  refine xB ?_
  refine nA ?_
  refine CW.ghost hg ?_
  refine sR ?_
  refine a_mv ?_
  refine a_as ?_
  refine rN ?_
  refine CW.ret ?_
  obtain rfl := sI h
  exact rT
theorem t_laws_markInt64SS (x0 : List (List Int)) (x1 : Int) (r : Int × (List (List Int))) (h : f_laws_markInt64SS x0 x1 = some r) : FnC Try.prog 42 [L 1 lV x0, I x1] [I r.1] [(0, lM r.2)] := by
 refine fB Try.func42 (fun St W w0 v => ?_)
 refine sR ?_
 refine a_as ?_
 refine rN ?_
 refine CW.seq ?_
 refine sR ?_
 refine a_as ?_
 refine rN ?_
 refine CW.block ?_
 obtain ⟨r4, hr4, h⟩ := bd h
 refine CW.lp (s := (x0, x1, 0)) l1_laws_markInt64SS (fun s1 : (List (List Int)) × Int × Int => envL [(0, L 1 lV s1.1), (1, I s1.2.1), (5, I s1.2.2)]) (fun (r4 : ((List (List Int)) × Int)) e E => e = .exit 0 ∧ Ghost ⟨St, W, w0, Try.f42.ntmps⟩ E (envL [(0, L 1 lV r4.1), (1, I r4.2)])) (.has ⟨rfl, rfl, rfl, trivial⟩) (fun s1 x h => ?_) hr4 (fun e E hq => ?_)
 ·refine CW.seq ?_
  refine sR ?_
  refine a_mv ?_
  refine a_mv ?_
  refine a_len ?_
  refine a_lss ?_
  refine rN ?_
  refine cn h (fun hc h => ?_) (fun hc h => ?_)
  ·refine CW.skip ?_
   refine nA ?_
   refine CW.seq ?_
   refine CW.block ?_
   refine CW.region ?_
   refine a_mv ?_
   refine a_mv ?_
   obtain ⟨v1, hv1, h⟩ := bd h
   refine a_ix ?_
   refine a_ld ?_
   refine a_mv ?_
   obtain ⟨r2, hr2, h⟩ := bd h
   refine oP (x_callM (xs := [.tmp 15, .tmp 16]) 0 15 0 [s1.2.2.toNat] Try.call41 (t_laws_markInt64S _ _ _ hr2) rfl rfl (getc hv1 rfl) (clean_of (cleanL (Enc.clean (f := I)))) (clean_of (cleanL (Enc.clean (f := I)))) (Enc.rofree (f := L 1 I) _) (Enc.rofree (f := L 1 I) _) ⟨(agLd rfl (clean_of (cleanL (Enc.clean (f := I)))) (Enc.rofree (f := L 1 I) _)), ⟨(agM _ rfl rfl rfl), trivial⟩⟩ (resC (f := I) inferInstance resN) (setc hv1 rfl) rfl rfl rfl) ?_
   refine a_as ?_
   refine RW.nil ?_
   refine nB ?_
   refine nA ?_
   refine CW.region ?_
   refine a_mv ?_
   obtain ⟨v3, hv3, h⟩ := bd h
   refine a_add ?_
   refine a_as ?_
   refine RW.nil ?_
   exact eN h
  ·refine CW.exit ?_
   refine xA ?_
   exact eX h
 ·obtain ⟨rfl, hg⟩ := hq
  refine xB ?_
  refine nA ?_
  refine CW.ghost hg ?_
  refine sR ?_
  refine a_mv ?_
  refine a_as ?_
  refine rN ?_
  refine CW.ret ?_
  obtain rfl := sI h
  exact rT
theorem t_laws_markInt64SSS (x0 : List (List (List Int))) (x1 : Int) (r : Int × (List (List (List Int)))) (h : f_laws_markInt64SSS x0 x1 = some r) : FnC Try.prog 43 [L 1 lM x0, I x1] [I r.1] [(0, lC r.2)] := by
 refine fB Try.func43 (fun St W w0 v => ?_)
 refine sR ?_
 refine a_as ?_
 refine rN ?_
 refine CW.seq ?_
 refine sR ?_
 refine a_as ?_
 refine rN ?_
 refine CW.block ?_
 obtain ⟨r4, hr4, h⟩ := bd h
 refine CW.lp (s := (x0, x1, 0)) l1_laws_markInt64SSS (fun s1 : (List (List (List Int))) × Int × Int => envL [(0, L 1 lM s1.1), (1, I s1.2.1), (5, I s1.2.2)]) (fun (r4 : ((List (List (List Int))) × Int)) e E => e = .exit 0 ∧ Ghost ⟨St, W, w0, Try.f43.ntmps⟩ E (envL [(0, L 1 lM r4.1), (1, I r4.2)])) (.has ⟨rfl, rfl, rfl, trivial⟩) (fun s1 x h => ?_) hr4 (fun e E hq => ?_)
 ·refine CW.seq ?_
  refine sR ?_
  refine a_mv ?_
  refine a_mv ?_
  refine a_len ?_
  refine a_lss ?_
  refine rN ?_
  refine cn h (fun hc h => ?_) (fun hc h => ?_)
  ·refine CW.skip ?_
   refine nA ?_
   refine CW.seq ?_
   refine CW.block ?_
   refine CW.region ?_
   refine a_mv ?_
   refine a_mv ?_
   obtain ⟨v1, hv1, h⟩ := bd h
   refine a_ix ?_
   refine a_ld ?_
   refine a_mv ?_
   obtain ⟨r2, hr2, h⟩ := bd h
   refine oP (x_callM (xs := [.tmp 15, .tmp 16]) 0 15 0 [s1.2.2.toNat] Try.call42 (t_laws_markInt64SS _ _ _ hr2) rfl rfl (getc hv1 rfl) (clean_of (cleanL (Enc.clean (f := lV)))) (clean_of (cleanL (Enc.clean (f := lV)))) (Enc.rofree (f := L 1 lV) _) (Enc.rofree (f := L 1 lV) _) ⟨(agLd rfl (clean_of (cleanL (Enc.clean (f := lV)))) (Enc.rofree (f := L 1 lV) _)), ⟨(agM _ rfl rfl rfl), trivial⟩⟩ (resC (f := I) inferInstance resN) (setc hv1 rfl) rfl rfl rfl) ?_
   refine a_as ?_
   refine RW.nil ?_
   refine nB ?_
   refine nA ?_
   refine CW.region ?_
   refine a_mv ?_
   obtain ⟨v3, hv3, h⟩ := bd h
   refine a_add ?_
   refine a_as ?_
   refine RW.nil ?_
   exact eN h
  ·refine CW.exit ?_
   refine xA ?_
   exact eX h
 ·obtain ⟨rfl, hg⟩ := hq
  refine xB ?_
  refine nA ?_
  refine CW.ghost hg ?_
  refine sR ?_
  refine a_mv ?_
  refine a_as ?_
  refine rN ?_
  refine CW.ret ?_
  obtain rfl := sI h
  exact rT
theorem t_laws_markPresentation (x0 : SPresentation) (x1 : Int) (r : Int × SPresentation) (h : f_laws_markPresentation x0 x1 = some r) : FnC Try.prog 16 [eSPresentation x0, I x1] [I r.1] [(0, eSPresentation r.2)] := by
 refine fB Try.func16 (fun St W w0 v => ?_) (ht := ⟨Top.of_clean _ (Enc.clean (f := eSPresentation) _), by simp [Top, Tops], trivial⟩)
 refine sR ?_
 refine oP (x_box rfl (clean_of (cleanA ⟨(cleanL (Enc.clean (f := I))), (cleanL (Enc.clean (f := lV))), (cleanL (Enc.clean (f := lM))), trivial⟩)) rfl) ?_
 refine a_as ?_
 refine rN ?_
 refine sR ?_
 refine a_fa ?_
 refine a_ld ?_
 refine a_mv ?_
 obtain ⟨r1, hr1, h⟩ := bd h
 refine oP (x_callM (xs := [.tmp 6, .tmp 7]) 0 6 2 [0, 0] Try.call41 (t_laws_markInt64S _ _ _ hr1) rfl rfl rfl (clean_of (cleanL (Enc.clean (f := I)))) (clean_of (cleanL (Enc.clean (f := I)))) (Enc.rofree (f := L 1 I) _) (Enc.rofree (f := L 1 I) _) ⟨(agLd rfl (clean_of (cleanL (Enc.clean (f := I)))) (Enc.rofree (f := L 1 I) _)), ⟨(agM _ rfl rfl rfl), trivial⟩⟩ (resC (f := I) inferInstance resN) rfl rfl rfl rfl) ?_
 refine a_as ?_
 refine rN ?_
 refine sR ?_
 refine a_fa ?_
 refine a_ld ?_
 refine a_mv ?_
 obtain ⟨r2, hr2, h⟩ := bd h
 refine oP (x_callM (xs := [.tmp 10, .tmp 11]) 0 10 2 [1, 0] Try.call42 (t_laws_markInt64SS _ _ _ hr2) rfl rfl rfl (clean_of (cleanL (Enc.clean (f := lV)))) (clean_of (cleanL (Enc.clean (f := lV)))) (Enc.rofree (f := L 1 lV) _) (Enc.rofree (f := L 1 lV) _) ⟨(agLd rfl (clean_of (cleanL (Enc.clean (f := lV)))) (Enc.rofree (f := L 1 lV) _)), ⟨(agM _ rfl rfl rfl), trivial⟩⟩ (resC (f := I) inferInstance resN) rfl rfl rfl rfl) ?_
 refine a_as ?_
 refine rN ?_
 refine sR ?_
 refine a_fa ?_
 refine a_ld ?_
 refine a_mv ?_
 obtain ⟨r3, hr3, h⟩ := bd h
 refine oP (x_callM (xs := [.tmp 14, .tmp 15]) 0 14 2 [2, 0] Try.call43 (t_laws_markInt64SSS _ _ _ hr3) rfl rfl rfl (clean_of (cleanL (Enc.clean (f := lM)))) (clean_of (cleanL (Enc.clean (f := lM)))) (Enc.rofree (f := L 1 lM) _) (Enc.rofree (f := L 1 lM) _) ⟨(agLd rfl (clean_of (cleanL (Enc.clean (f := lM)))) (Enc.rofree (f := L 1 lM) _)), ⟨(agM _ rfl rfl rfl), trivial⟩⟩ (resC (f := I) inferInstance resN) rfl rfl rfl rfl) ?_
 refine a_as ?_
 refine RW.ghost (Ghost.trf 0 [0] 2 [0, 0] _ _ rfl rfl rfl rfl rfl (clean_of (cleanL (Enc.clean (f := I)))) rfl) ?_
 refine RW.ghost (Ghost.trf 0 [1] 2 [1, 0] _ _ rfl rfl rfl rfl rfl (clean_of (cleanL (Enc.clean (f := lV)))) rfl) ?_
 refine RW.ghost (Ghost.trf 0 [2] 2 [2, 0] _ _ rfl rfl rfl rfl rfl (clean_of (cleanL (Enc.clean (f := lM)))) rfl) ?_
 refine rN ?_
 refine sR ?_
 refine a_mv ?_
 refine a_as ?_
 refine rN ?_
 refine CW.ret ?_
 obtain rfl := sI h
 exact rT
theorem t_laws_markModule (x0 : SModule) (x1 : Int) (r : Int × SModule) (h : f_laws_markModule x0 x1 = some r) : FnC Try.prog 17 [eSModule x0, I x1] [I r.1] [(0, eSModule r.2)] := by
 refine fB Try.func17 (fun St W w0 v => ?_) (ht := ⟨Top.of_clean _ (Enc.clean (f := eSModule) _), by simp [Top, Tops], trivial⟩)
 refine sR ?_
 refine oP (x_box rfl (clean_of (cleanA ⟨(Enc.clean (f := I) _), (Enc.clean (f := I) _), (cleanL (Enc.clean (f := lM))), trivial⟩)) rfl) ?_
 refine a_as ?_
 refine rN ?_
 refine sR ?_
 refine a_fa ?_
 refine a_ld ?_
 refine a_mv ?_
 obtain ⟨r1, hr1, h⟩ := bd h
 refine oP (x_callM (xs := [.tmp 6, .tmp 7]) 0 6 2 [2, 0] Try.call43 (t_laws_markInt64SSS _ _ _ hr1) rfl rfl rfl (clean_of (cleanL (Enc.clean (f := lM)))) (clean_of (cleanL (Enc.clean (f := lM)))) (Enc.rofree (f := L 1 lM) _) (Enc.rofree (f := L 1 lM) _) ⟨(agLd rfl (clean_of (cleanL (Enc.clean (f := lM)))) (Enc.rofree (f := L 1 lM) _)), ⟨(agM _ rfl rfl rfl), trivial⟩⟩ (resC (f := I) inferInstance resN) rfl rfl rfl rfl) ?_
 refine a_as ?_
 refine RW.ghost (Ghost.trf 0 [2] 2 [2, 0] _ _ rfl rfl rfl rfl rfl (clean_of (cleanL (Enc.clean (f := lM)))) rfl) ?_
 refine rN ?_
 refine sR ?_
 refine a_mv ?_
 refine a_as ?_
 refine rN ?_
 refine CW.ret ?_
 obtain rfl := sI h
 exact rT
theorem t_laws_heldInt64S (x0 : List Int) (x1 : Int) (r : Int) (h : f_laws_heldInt64S x0 x1 = some r) : FnC Try.prog 51 [T.ro (lV x0), I x1] [I r] [] := by
 refine fB Try.func51 (fun St W w0 v => ?_)
 refine sR ?_
 refine a_as ?_
 refine rN ?_
 refine CW.seq ?_
 refine sR ?_
 refine a_as ?_
 refine rN ?_
 refine CW.block ?_
 obtain ⟨r4, hr4, h⟩ := bd h
 refine CW.lp (s := (x1, 0)) (l1_laws_heldInt64S x0) (fun s1 : Int × Int => envL [(0, T.ro (lV x0)), (1, I s1.1), (5, I s1.2)]) (fun (x : Int ⊕ Int) e E => match x with | (.inl r4) => e = .exit 0 ∧ Ghost ⟨St, W, w0, Try.f51.ntmps⟩ E (envL [(1, I r4)]) | (.inr r4) => e = .ret ∧ RetG ⟨St, W, w0, Try.f51.ntmps⟩ Try.prog Try.f51.results [T.ro (lV x0), I x1] [I r4] [] .ret E) (.has ⟨rfl, rfl, rfl, trivial⟩) (fun s1 x h => ?_) hr4 (fun e E hq => ?_)
 ·refine CW.seq ?_
  refine sR ?_
  refine a_mv ?_
  refine a_mv ?_
  refine a_lenr ?_
  refine a_lss ?_
  refine rN ?_
  refine cn h (fun hc h => ?_) (fun hc h => ?_)
  ·refine CW.skip ?_
   refine nA ?_
   refine CW.seq ?_
   refine CW.block ?_
   refine CW.seq ?_
   refine sR ?_
   refine a_mv ?_
   refine a_mv ?_
   obtain ⟨v1, hv1, h⟩ := bd h
   refine a_ixr ?_
   refine a_ldr ?_
   refine a_mv ?_
   refine a_neq ?_
   refine rN ?_
   refine cn h (fun hc h => ?_) (fun hc h => ?_)
   ·refine sR ?_
    refine a_as ?_
    refine rN ?_
    refine CW.ret ?_
    refine rA ?_
    refine rB ?_
    refine rA ?_
    exact eX h
   ·refine CW.skip ?_
    refine nA ?_
    refine CW.region ?_
    refine a_mv ?_
    obtain ⟨v2, hv2, h⟩ := bd h
    refine a_add ?_
    refine a_as ?_
    refine RW.nil ?_
    refine nB ?_
    refine nA ?_
    refine CW.region ?_
    refine a_mv ?_
    obtain ⟨v3, hv3, h⟩ := bd h
    refine a_add ?_
    refine a_as ?_
    refine RW.nil ?_
    exact eN h
  ·refine CW.exit ?_
   refine xA ?_
   exact eX h
 ·rcases r4 with r4 | r4
  ·obtain ⟨rfl, hg⟩ := hq
   refine xB ?_
   refine nA ?_
   refine CW.ghost hg ?_
   refine sR ?_
   refine a_mv ?_
   refine a_as ?_
   refine rN ?_
   refine CW.ret ?_
   obtain rfl := sI h
   exact rT
  ·obtain ⟨rfl, hq⟩ := hq
   refine rB ?_
   refine rA ?_
   obtain rfl := sI h
   exact hq
theorem t_laws_heldInt64SS (x0 : List (List Int)) (x1 : Int) (r : Int) (h : f_laws_heldInt64SS x0 x1 = some r) : FnC Try.prog 52 [T.ro (lM x0), I x1] [I r] [] := by
 refine fB Try.func52 (fun St W w0 v => ?_)
 refine sR ?_
 refine a_as ?_
 refine rN ?_
 refine CW.seq ?_
 refine sR ?_
 refine a_as ?_
 refine rN ?_
 refine CW.block ?_
 obtain ⟨r4, hr4, h⟩ := bd h
 refine CW.lp (s := (x1, 0)) (l1_laws_heldInt64SS x0) (fun s1 : Int × Int => envL [(0, T.ro (lM x0)), (1, I s1.1), (5, I s1.2)]) (fun (x : Int ⊕ Int) e E => match x with | (.inl r4) => e = .exit 0 ∧ Ghost ⟨St, W, w0, Try.f52.ntmps⟩ E (envL [(1, I r4)]) | (.inr r4) => e = .ret ∧ RetG ⟨St, W, w0, Try.f52.ntmps⟩ Try.prog Try.f52.results [T.ro (lM x0), I x1] [I r4] [] .ret E) (.has ⟨rfl, rfl, rfl, trivial⟩) (fun s1 x h => ?_) hr4 (fun e E hq => ?_)
 ·refine CW.seq ?_
  refine sR ?_
  refine a_mv ?_
  refine a_mv ?_
  refine a_lenr ?_
  refine a_lss ?_
  refine rN ?_
  refine cn h (fun hc h => ?_) (fun hc h => ?_)
  ·refine CW.skip ?_
   refine nA ?_
   refine CW.seq ?_
   refine CW.block ?_
   refine sR ?_
   refine a_mv ?_
   refine a_mv ?_
   obtain ⟨v1, hv1, h⟩ := bd h
   refine a_ixr ?_
   refine a_ldr ?_
   refine a_mv ?_
   obtain ⟨r2, hr2, h⟩ := bd h
   refine cA Try.call51 (t_laws_heldInt64S _ _ _ hr2) ?_
   refine a_as ?_
   refine rN ?_
   refine sR ?_
   refine a_mv ?_
   refine a_lss ?_
   refine rN ?_
   refine cn h (fun hc h => ?_) (fun hc h => ?_)
   ·refine sR ?_
    refine a_as ?_
    refine rN ?_
    refine CW.ret ?_
    refine rB ?_
    refine rA ?_
    exact eX h
   ·refine CW.skip ?_
    refine nB ?_
    refine nA ?_
    refine CW.region ?_
    refine a_mv ?_
    obtain ⟨v3, hv3, h⟩ := bd h
    refine a_add ?_
    refine a_as ?_
    refine RW.nil ?_
    exact eN h
  ·refine CW.exit ?_
   refine xA ?_
   exact eX h
 ·rcases r4 with r4 | r4
  ·obtain ⟨rfl, hg⟩ := hq
   refine xB ?_
   refine nA ?_
   refine CW.ghost hg ?_
   refine sR ?_
   refine a_mv ?_
   refine a_as ?_
   refine rN ?_
   refine CW.ret ?_
   obtain rfl := sI h
   exact rT
  ·obtain ⟨rfl, hq⟩ := hq
   refine rB ?_
   refine rA ?_
   obtain rfl := sI h
   exact hq
theorem t_laws_heldInt64SSS (x0 : List (List (List Int))) (x1 : Int) (r : Int) (h : f_laws_heldInt64SSS x0 x1 = some r) : FnC Try.prog 44 [T.ro (lC x0), I x1] [I r] [] := by
 refine fB Try.func44 (fun St W w0 v => ?_)
 refine sR ?_
 refine a_as ?_
 refine rN ?_
 refine CW.seq ?_
 refine sR ?_
 refine a_as ?_
 refine rN ?_
 refine CW.block ?_
 obtain ⟨r4, hr4, h⟩ := bd h
 refine CW.lp (s := (x1, 0)) (l1_laws_heldInt64SSS x0) (fun s1 : Int × Int => envL [(0, T.ro (lC x0)), (1, I s1.1), (5, I s1.2)]) (fun (x : Int ⊕ Int) e E => match x with | (.inl r4) => e = .exit 0 ∧ Ghost ⟨St, W, w0, Try.f44.ntmps⟩ E (envL [(1, I r4)]) | (.inr r4) => e = .ret ∧ RetG ⟨St, W, w0, Try.f44.ntmps⟩ Try.prog Try.f44.results [T.ro (lC x0), I x1] [I r4] [] .ret E) (.has ⟨rfl, rfl, rfl, trivial⟩) (fun s1 x h => ?_) hr4 (fun e E hq => ?_)
 ·refine CW.seq ?_
  refine sR ?_
  refine a_mv ?_
  refine a_mv ?_
  refine a_lenr ?_
  refine a_lss ?_
  refine rN ?_
  refine cn h (fun hc h => ?_) (fun hc h => ?_)
  ·refine CW.skip ?_
   refine nA ?_
   refine CW.seq ?_
   refine CW.block ?_
   refine sR ?_
   refine a_mv ?_
   refine a_mv ?_
   obtain ⟨v1, hv1, h⟩ := bd h
   refine a_ixr ?_
   refine a_ldr ?_
   refine a_mv ?_
   obtain ⟨r2, hr2, h⟩ := bd h
   refine cA Try.call52 (t_laws_heldInt64SS _ _ _ hr2) ?_
   refine a_as ?_
   refine rN ?_
   refine sR ?_
   refine a_mv ?_
   refine a_lss ?_
   refine rN ?_
   refine cn h (fun hc h => ?_) (fun hc h => ?_)
   ·refine sR ?_
    refine a_as ?_
    refine rN ?_
    refine CW.ret ?_
    refine rB ?_
    refine rA ?_
    exact eX h
   ·refine CW.skip ?_
    refine nB ?_
    refine nA ?_
    refine CW.region ?_
    refine a_mv ?_
    obtain ⟨v3, hv3, h⟩ := bd h
    refine a_add ?_
    refine a_as ?_
    refine RW.nil ?_
    exact eN h
  ·refine CW.exit ?_
   refine xA ?_
   exact eX h
 ·rcases r4 with r4 | r4
  ·obtain ⟨rfl, hg⟩ := hq
   refine xB ?_
   refine nA ?_
   refine CW.ghost hg ?_
   refine sR ?_
   refine a_mv ?_
   refine a_as ?_
   refine rN ?_
   refine CW.ret ?_
   obtain rfl := sI h
   exact rT
  ·obtain ⟨rfl, hq⟩ := hq
   refine rB ?_
   refine rA ?_
   obtain rfl := sI h
   exact hq
theorem t_laws_heldModule (x0 : SModule) (x1 : Int) (r : Int) (h : f_laws_heldModule x0 x1 = some r) : FnC Try.prog 18 [qModule x0, I x1] [I r] [] := by
 refine fB Try.func18 (fun St W w0 v => ?_)
 refine sR ?_
 refine a_box ?_
 refine a_as ?_
 refine rN ?_
 refine sR ?_
 refine a_fa ?_
 refine a_ld ?_
 refine a_mv ?_
 obtain ⟨r1, hr1, h⟩ := bd h
 refine cA Try.call44 (t_laws_heldInt64SSS _ _ _ hr1) ?_
 refine a_as ?_
 refine rN ?_
 refine CW.seq ?_
 refine sR ?_
 refine a_mv ?_
 refine a_lss ?_
 refine rN ?_
 refine cn h (fun hc h => ?_) (fun hc h => ?_)
 ·refine sR ?_
  refine a_as ?_
  refine rN ?_
  refine CW.ret ?_
  refine rA ?_
  obtain rfl := sI h
  exact rT
 ·refine CW.skip ?_
  refine nA ?_
  refine sR ?_
  refine a_mv ?_
  refine a_as ?_
  refine rN ?_
  refine CW.ret ?_
  obtain rfl := sI h
  exact rT
theorem t_laws_FnExactSumModules (x0 : SPresentation) (x1 : SModule) (x2 : SModule) (r : Bool) (h : f_laws_FnExactSumModules x0 x1 x2 = some r) : FnC Try.prog 3 [qPresentation x0, qModule x1, qModule x2] [B r] [] := by
 refine fB Try.func3 (fun St W w0 v => ?_)
 refine sR ?_
 refine a_box ?_
 refine a_box ?_
 refine a_box ?_
 refine a_as ?_
 refine rN ?_
 refine sR ?_
 refine a_as ?_
 refine rN ?_
 refine sR ?_
 refine a_ldp ?_
 refine a_mv ?_
 obtain ⟨r1, hr1, h⟩ := bd h
 refine cA Try.call8 (t_laws_szPresentation _ _ _ hr1) ?_
 refine a_as ?_
 refine rN ?_
 refine CW.seq ?_
 refine sR ?_
 refine a_mv ?_
 refine a_lss ?_
 refine rN ?_
 refine cn h (fun hc h => ?_) (fun hc h => ?_)
 ·refine sR ?_
  refine a_as ?_
  refine rN ?_
  refine CW.ret ?_
  refine rA ?_
  obtain rfl := sI h
  exact rT
 ·refine CW.skip ?_
  refine nA ?_
  refine sR ?_
  refine a_ldp ?_
  refine a_mv ?_
  obtain ⟨r2, hr2, h⟩ := bd h
  refine cA Try.call9 (t_laws_szModule _ _ _ hr2) ?_
  refine a_as ?_
  refine rN ?_
  refine CW.seq ?_
  refine sR ?_
  refine a_mv ?_
  refine a_lss ?_
  refine rN ?_
  refine cn h (fun hc h => ?_) (fun hc h => ?_)
  ·refine sR ?_
   refine a_as ?_
   refine rN ?_
   refine CW.ret ?_
   refine rA ?_
   obtain rfl := sI h
   exact rT
  ·refine CW.skip ?_
   refine nA ?_
   refine sR ?_
   refine a_ldp ?_
   refine a_mv ?_
   obtain ⟨r3, hr3, h⟩ := bd h
   refine cA Try.call9 (t_laws_szModule _ _ _ hr3) ?_
   refine a_as ?_
   refine rN ?_
   refine CW.seq ?_
   refine sR ?_
   refine a_mv ?_
   refine a_lss ?_
   refine rN ?_
   refine cn h (fun hc h => ?_) (fun hc h => ?_)
   ·refine sR ?_
    refine a_as ?_
    refine rN ?_
    refine CW.ret ?_
    refine rA ?_
    obtain rfl := sI h
    exact rT
   ·refine CW.skip ?_
    refine nA ?_
    refine CW.seq ?_
    obtain ⟨r4, hr4, h⟩ := bd h
    obtain ⟨r5, hr5, h⟩ := bd h
    obtain ⟨r6, hr6, h⟩ := bd h
    obtain ⟨r7, hr7, h⟩ := bd h
    refine CW.dk ?_
    refine d_ldp [(3, _)] ?_
    refine dG [(36, _)] [([(37, some (eSPresentation r4))], [(37, 0)])] ⟨rfl, trivial⟩ (fun E h => IxOk.opE (x_call (xs := [.tmp 36]) Try.call11 (t_laws_toPresentation _ _ hr4) ⟨(agC _ h.1 rfl rfl), trivial⟩ (resC (f := eSPresentation) inferInstance resN) rfl) rfl) ?_
    refine d_ldp [(4, _)] ?_
    refine dG [(38, _)] [([(39, some (eSModule r5))], [(39, 0)])] ⟨rfl, trivial⟩ (fun E h => IxOk.opE (x_call (xs := [.tmp 38]) Try.call12 (t_laws_toModule _ _ hr5) ⟨(agC _ h.1 rfl rfl), trivial⟩ (resC (f := eSModule) inferInstance resN) rfl) rfl) ?_
    refine d_ldp [(5, _)] ?_
    refine dG [(40, _)] [([(41, some (eSModule r6))], [(41, 0)])] ⟨rfl, trivial⟩ (fun E h => IxOk.opE (x_call (xs := [.tmp 40]) Try.call12 (t_laws_toModule _ _ hr6) ⟨(agC _ h.1 rfl rfl), trivial⟩ (resC (f := eSModule) inferInstance resN) rfl) rfl) ?_
    refine dG [(37, _), (39, _), (41, _)] [([(42, some (T.tup [eSModule r7.1, I r7.2]))], [(42, 0)])] ⟨rfl, rfl, rfl, trivial⟩ (fun E h => IxOk.opE (x_call (xs := [.tmp 37, .tmp 39, .tmp 41]) Try.call10 (t_spec_SumModules _ _ _ _ hr7) ⟨(agC _ h.1 (cloA (cloC (cloO inferInstance) (cloC (cloO inferInstance) (cloC (cloO inferInstance) cloN)))) rfl), ⟨(agC _ h.2.1 (cloA (cloC rfl (cloC rfl (cloC (cloO inferInstance) cloN)))) rfl), ⟨(agC _ h.2.2.1 (cloA (cloC rfl (cloC rfl (cloC (cloO inferInstance) cloN)))) rfl), trivial⟩⟩⟩ (resC (f := eSModule) inferInstance (resC (f := I) inferInstance resN)) rfl) rfl) ?_
    refine d_mvT [(42, _)] ?_
    refine d_ext [(35, _)] ?_
    refine d_ext [(35, _)] ?_
    refine d_alloc [] ?_
    refine dG [(43, _), (42, _), (8, _)] [([(43, some (eSModule r7.1)), (42, some (T.tup [T.agg [I r7.1.Prime, I r7.1.Dim, T.any], I r7.2]))], [(43, 2), (42, 3)]), ([(8, some (T.ptr (eSModule r7.1))), (43, some (T.agg [I r7.1.Prime, I r7.1.Dim, T.same 8 [2, 0]]))], [(8, 1), (43, 1)])] ⟨rfl, rfl, rfl, trivial⟩ (fun E h => IxOk.gh (Ghost.trf 43 [2] 42 [2, 0] _ _ h.1 rfl h.2.1 rfl rfl (clean_of (cleanL (Enc.clean (f := lM)))) rfl) <| IxOk.opE (x_stp inf_31 rfl (locB (keepE h.2.2.1) rfl) (keepE h.2.2.1) rfl rfl rfl (clean_of (cleanA ⟨(Enc.clean (f := I) _), (Enc.clean (f := I) _), (cleanL (Enc.clean (f := lM))), trivial⟩)) rfl) rfl) ?_
    refine d_as [(44, _)] ?_
    refine dNA mixedP ?_
    refine nA ?_
    refine CW.seq ?_
    refine CW.to [(3, T.ptr (qPresentation x0)), (4, T.ptr (qModule x1)), (5, T.ptr (qModule x2)), (8, T.ptr (eSModule r7.1)), (9, I r7.2)] ⟨rfl, rfl, rfl, rfl, rfl, trivial⟩ ?_
    refine CW.region ?_
    refine a_ldp ?_
    obtain ⟨r8, hr8, h⟩ := bd h
    refine oP (x_call (xs := [.tmp 45]) Try.call11 (t_laws_toPresentation _ _ hr8) ⟨(agC _ rfl rfl rfl), trivial⟩ (resC (f := eSPresentation) inferInstance resN) rfl) ?_
    refine a_alloc ?_
    refine oP (x_stp inf_34 rfl (locB rfl rfl) rfl rfl rfl rfl (clean_of (cleanA ⟨(cleanL (Enc.clean (f := I))), (cleanL (Enc.clean (f := lV))), (cleanL (Enc.clean (f := lM))), trivial⟩)) rfl) ?_
    refine rN ?_
    refine sR ?_
    refine a_ldp ?_
    obtain ⟨r9, hr9, h⟩ := bd h
    refine oP (x_call (xs := [.tmp 47]) Try.call12 (t_laws_toModule _ _ hr9) ⟨(agC _ rfl rfl rfl), trivial⟩ (resC (f := eSModule) inferInstance resN) rfl) ?_
    refine a_alloc ?_
    refine oP (x_stp inf_31 rfl (locB rfl rfl) rfl rfl rfl rfl (clean_of (cleanA ⟨(Enc.clean (f := I) _), (Enc.clean (f := I) _), (cleanL (Enc.clean (f := lM))), trivial⟩)) rfl) ?_
    refine rN ?_
    refine sR ?_
    refine a_ldp ?_
    obtain ⟨r10, hr10, h⟩ := bd h
    refine oP (x_call (xs := [.tmp 49]) Try.call12 (t_laws_toModule _ _ hr10) ⟨(agC _ rfl rfl rfl), trivial⟩ (resC (f := eSModule) inferInstance resN) rfl) ?_
    refine a_alloc ?_
    refine oP (x_stp inf_31 rfl (locB rfl rfl) rfl rfl rfl rfl (clean_of (cleanA ⟨(Enc.clean (f := I) _), (Enc.clean (f := I) _), (cleanL (Enc.clean (f := lM))), trivial⟩)) rfl) ?_
    refine rN ?_
    refine sR ?_
    refine a_ldp ?_
    refine a_ldp ?_
    refine a_ldp ?_
    obtain ⟨r11, hr11, h⟩ := bd h
    refine oP (x_call (xs := [.tmp 52, .tmp 53, .tmp 54]) Try.call13 (t_impl_SumModules _ _ _ _ hr11) ⟨(agC _ rfl (cloA (cloC (cloS rfl rfl inferInstance) (cloC (cloS rfl rfl inferInstance) (cloC (cloS rfl rfl inferInstance) cloN)))) rfl), ⟨(agC _ rfl (cloA (cloC rfl (cloC rfl (cloC (cloS rfl rfl inferInstance) cloN)))) rfl), ⟨(agC _ rfl (cloA (cloC rfl (cloC rfl (cloC (cloS rfl rfl inferInstance) cloN)))) rfl), trivial⟩⟩⟩ (resC (f := eSModule) inferInstance (resC (f := I) inferInstance resN)) rfl) ?_
    refine a_mvT ?_
    refine a_ext ?_
    refine a_ext ?_
    refine a_alloc ?_
    refine RW.ghost (Ghost.trf 56 [2] 55 [2, 0] _ _ rfl rfl rfl rfl rfl (clean_of (cleanL (Enc.clean (f := lM)))) rfl) ?_
    refine oP (x_stp inf_31 rfl (locB rfl rfl) rfl rfl rfl rfl (clean_of (cleanA ⟨(Enc.clean (f := I) _), (Enc.clean (f := I) _), (cleanL (Enc.clean (f := lM))), trivial⟩)) rfl) ?_
    refine a_as ?_
    refine rN ?_
    refine CW.seq ?_
    refine sR ?_
    refine a_ldp ?_
    refine a_ldp ?_
    obtain ⟨r12, hr12, h⟩ := bd h
    refine oP (x_call (xs := [.tmp 58, .tmp 59]) Try.call14 (t_laws_eqModule _ _ _ hr12) ⟨(agC _ rfl (cloA (cloC rfl (cloC rfl (cloC (cloS rfl rfl inferInstance) cloN)))) rfl), ⟨(agC _ rfl (cloA (cloC rfl (cloC rfl (cloC (cloS rfl rfl inferInstance) cloN)))) rfl), trivial⟩⟩ (resC (f := B) inferInstance resN) rfl) ?_
    refine a_not ?_
    refine a_mv ?_
    refine RW.cases 62 _ rfl (fun hc => ?_) (fun hc => ?_)
    ·have h := cT hc h
     refine sk2 ?_
     refine sk2 ?_
     refine sk2 ?_
     refine a_pick ?_
     refine rN ?_
     refine CW.condT rfl ?_
     refine CW.seq ?_
     refine CW.to [] trivial ?_
     refine CW.region ?_
     refine a_as ?_
     refine rN ?_
     refine CW.ret ?_
     refine rA ?_
     obtain rfl := sI h
     exact rT
    ·have h := cF hc h
     refine g_mv ?_
     refine g_mv ?_
     refine g_neq ?_
     refine a_pick ?_
     refine rN ?_
     refine cn h (fun hc h => ?_) (fun hc h => ?_)
     ·refine CW.seq ?_
      refine CW.to [] trivial ?_
      refine CW.region ?_
      refine a_as ?_
      refine rN ?_
      refine CW.ret ?_
      refine rA ?_
      obtain rfl := sI h
      exact rT
     ·refine CW.skip ?_
      refine nA ?_
      refine CW.seq ?_
      refine CW.seq ?_
      refine CW.to [(3, T.ptr (qPresentation x0)), (4, T.ptr (qModule x1)), (5, T.ptr (qModule x2)), (8, T.ptr (eSModule r7.1)), (9, I r7.2), (10, T.ptr (eSPresentation r8)), (11, T.ptr (eSModule r9)), (12, T.ptr (eSModule r10)), (13, T.ptr (eSModule r11.1)), (14, I r11.2)] ⟨rfl, rfl, rfl, rfl, rfl, rfl, rfl, rfl, rfl, rfl, trivial⟩ ?_
      obtain ⟨r13, hr13, h⟩ := bd h
      obtain ⟨r14, hr14, h⟩ := bd h
      refine CW.dk ?_
      refine d_ldp [(10, _)] ?_
      refine d_ldp [(3, _)] ?_
      refine dG [(68, _)] [([(69, some (eSPresentation r13))], [(69, 0)])] ⟨rfl, trivial⟩ (fun E h => IxOk.opE (x_call (xs := [.tmp 68]) Try.call11 (t_laws_toPresentation _ _ hr13) ⟨(agC _ h.1 rfl rfl), trivial⟩ (resC (f := eSPresentation) inferInstance resN) rfl) rfl) ?_
      refine dG [(67, _), (10, _), (69, _)] [([(70, some (B r14))], [(70, 0)])] ⟨rfl, rfl, rfl, trivial⟩ (fun E h => IxOk.opE (x_call (xs := [.tmp 67, .tmp 69]) Try.call15 (t_laws_eqPresentation _ _ _ hr14) ⟨(agC _ h.1 (cloA (cloC (cloS h.2.1 rfl inferInstance) (cloC (cloS h.2.1 rfl inferInstance) (cloC (cloS h.2.1 rfl inferInstance) cloN)))) rfl), ⟨(agC _ h.2.2.1 (cloA (cloC (cloO inferInstance) (cloC (cloO inferInstance) (cloC (cloO inferInstance) cloN)))) rfl), trivial⟩⟩ (resC (f := B) inferInstance resN) rfl) rfl) ?_
      refine d_not [(70, _)] ?_
      refine dNA mixedP ?_
      refine nA ?_
      refine cn h (fun hc h => ?_) (fun hc h => ?_)
      ·refine sR ?_
       refine a_as ?_
       refine rN ?_
       refine CW.ret ?_
       refine rA ?_
       obtain rfl := sI h
       exact rT
      ·refine CW.skip ?_
       refine nA ?_
       refine CW.seq ?_
       refine CW.seq ?_
       obtain ⟨r15, hr15, h⟩ := bd h
       obtain ⟨r16, hr16, h⟩ := bd h
       refine CW.dk ?_
       refine d_ldp [(11, _)] ?_
       refine d_ldp [(4, _)] ?_
       refine dG [(73, _)] [([(74, some (eSModule r15))], [(74, 0)])] ⟨rfl, trivial⟩ (fun E h => IxOk.opE (x_call (xs := [.tmp 73]) Try.call12 (t_laws_toModule _ _ hr15) ⟨(agC _ h.1 rfl rfl), trivial⟩ (resC (f := eSModule) inferInstance resN) rfl) rfl) ?_
       refine dG [(72, _), (11, _), (74, _)] [([(75, some (B r16))], [(75, 0)])] ⟨rfl, rfl, rfl, trivial⟩ (fun E h => IxOk.opE (x_call (xs := [.tmp 72, .tmp 74]) Try.call14 (t_laws_eqModule _ _ _ hr16) ⟨(agC _ h.1 (cloA (cloC rfl (cloC rfl (cloC (cloS h.2.1 rfl inferInstance) cloN)))) rfl), ⟨(agC _ h.2.2.1 (cloA (cloC rfl (cloC rfl (cloC (cloO inferInstance) cloN)))) rfl), trivial⟩⟩ (resC (f := B) inferInstance resN) rfl) rfl) ?_
       refine d_not [(75, _)] ?_
       refine dNA mixedP ?_
       refine nA ?_
       refine cn h (fun hc h => ?_) (fun hc h => ?_)
       ·refine sR ?_
        refine a_as ?_
        refine rN ?_
        refine CW.ret ?_
        refine rA ?_
        obtain rfl := sI h
        exact rT
       ·refine CW.skip ?_
        refine nA ?_
        refine CW.seq ?_
        refine CW.seq ?_
        obtain ⟨r17, hr17, h⟩ := bd h
        obtain ⟨r18, hr18, h⟩ := bd h
        refine CW.dk ?_
        refine d_ldp [(12, _)] ?_
        refine d_ldp [(5, _)] ?_
        refine dG [(78, _)] [([(79, some (eSModule r17))], [(79, 0)])] ⟨rfl, trivial⟩ (fun E h => IxOk.opE (x_call (xs := [.tmp 78]) Try.call12 (t_laws_toModule _ _ hr17) ⟨(agC _ h.1 rfl rfl), trivial⟩ (resC (f := eSModule) inferInstance resN) rfl) rfl) ?_
        refine dG [(77, _), (12, _), (79, _)] [([(80, some (B r18))], [(80, 0)])] ⟨rfl, rfl, rfl, trivial⟩ (fun E h => IxOk.opE (x_call (xs := [.tmp 77, .tmp 79]) Try.call14 (t_laws_eqModule _ _ _ hr18) ⟨(agC _ h.1 (cloA (cloC rfl (cloC rfl (cloC (cloS h.2.1 rfl inferInstance) cloN)))) rfl), ⟨(agC _ h.2.2.1 (cloA (cloC rfl (cloC rfl (cloC (cloO inferInstance) cloN)))) rfl), trivial⟩⟩ (resC (f := B) inferInstance resN) rfl) rfl) ?_
        refine d_not [(80, _)] ?_
        refine dNA mixedP ?_
        refine nA ?_
        refine cn h (fun hc h => ?_) (fun hc h => ?_)
        ·refine sR ?_
         refine a_as ?_
         refine rN ?_
         refine CW.ret ?_
         refine rA ?_
         obtain rfl := sI h
         exact rT
        ·refine CW.skip ?_
         refine nA ?_
         refine sR ?_
         refine a_as ?_
         refine rN ?_
         refine sR ?_
         refine a_ldp ?_
         refine a_mv ?_
         obtain ⟨r19, hr19, h⟩ := bd h
         refine oP (x_callA (xs := [.tmp 82, .tmp 83]) 0 82 10 [(0, [0, 0]), (1, [1, 0]), (2, [2, 0])] 2 Try.call16 (t_laws_markPresentation _ _ _ hr19) (.cons 0 [0, 0] _ _ _ _ _ rfl rfl rfl rfl (clean_of (cleanL (Enc.clean (f := I)))) rfl rfl rfl (.cons 1 [1, 0] _ _ _ _ _ rfl rfl rfl rfl (clean_of (cleanL (Enc.clean (f := lV)))) rfl rfl rfl (.cons 2 [2, 0] _ _ _ _ _ rfl rfl rfl rfl (clean_of (cleanL (Enc.clean (f := lM)))) rfl rfl rfl (.nil _)))) rfl (Enc.clean (f := eSPresentation) _) (Enc.rofree (f := eSPresentation) _) ⟨(agLd rfl (Enc.clean (f := eSPresentation) _) (Enc.rofree (f := eSPresentation) _)), ⟨(agM _ rfl rfl rfl), trivial⟩⟩ (resC (f := I) inferInstance resN) (.cons 0 [0, 0] _ _ _ _ _ _ rfl rfl rfl rfl (clean_of (cleanL (Enc.clean (f := I)))) rfl rfl rfl (.cons 1 [1, 0] _ _ _ _ _ _ rfl rfl rfl rfl (clean_of (cleanL (Enc.clean (f := lV)))) rfl rfl rfl (.cons 2 [2, 0] _ _ _ _ _ _ rfl rfl rfl rfl (clean_of (cleanL (Enc.clean (f := lM)))) rfl rfl rfl (.nil _)))) rfl rfl rfl) ?_
         refine a_as ?_
         refine rN ?_
         refine sR ?_
         refine a_ldp ?_
         refine a_mv ?_
         obtain ⟨r20, hr20, h⟩ := bd h
         refine oP (x_callA (xs := [.tmp 85, .tmp 86]) 0 85 11 [(2, [2, 0])] 2 Try.call17 (t_laws_markModule _ _ _ hr20) (.cons 2 [2, 0] _ _ _ _ _ rfl rfl rfl rfl (clean_of (cleanL (Enc.clean (f := lM)))) rfl rfl rfl (.nil _)) rfl (Enc.clean (f := eSModule) _) (Enc.rofree (f := eSModule) _) ⟨(agLd rfl (Enc.clean (f := eSModule) _) (Enc.rofree (f := eSModule) _)), ⟨(agM _ rfl rfl rfl), trivial⟩⟩ (resC (f := I) inferInstance resN) (.cons 2 [2, 0] _ _ _ _ _ _ rfl rfl rfl rfl (clean_of (cleanL (Enc.clean (f := lM)))) rfl rfl rfl (.nil _)) rfl rfl rfl) ?_
         refine a_as ?_
         refine rN ?_
         refine CW.seq ?_
         refine CW.to [(3, T.ptr (qPresentation x0)), (4, T.ptr (qModule x1)), (5, T.ptr (qModule x2)), (8, T.ptr (eSModule r7.1)), (9, I r7.2), (12, T.ptr (eSModule r10)), (13, T.ptr (eSModule r11.1)), (14, I r11.2), (15, I r20.1)] ⟨rfl, rfl, rfl, rfl, rfl, rfl, rfl, rfl, rfl, trivial⟩ ?_
         refine CW.region ?_
         refine a_ldp ?_
         refine a_mv ?_
         obtain ⟨r21, hr21, h⟩ := bd h
         refine oP (x_callA (xs := [.tmp 88, .tmp 89]) 0 88 12 [(2, [2, 0])] 2 Try.call17 (t_laws_markModule _ _ _ hr21) (.cons 2 [2, 0] _ _ _ _ _ rfl rfl rfl rfl (clean_of (cleanL (Enc.clean (f := lM)))) rfl rfl rfl (.nil _)) rfl (Enc.clean (f := eSModule) _) (Enc.rofree (f := eSModule) _) ⟨(agLd rfl (Enc.clean (f := eSModule) _) (Enc.rofree (f := eSModule) _)), ⟨(agM _ rfl rfl rfl), trivial⟩⟩ (resC (f := I) inferInstance resN) (.cons 2 [2, 0] _ _ _ _ _ _ rfl rfl rfl rfl (clean_of (cleanL (Enc.clean (f := lM)))) rfl rfl rfl (.nil _)) rfl rfl rfl) ?_
         refine a_as ?_
         refine rN ?_
         refine CW.seq ?_
         refine sR ?_
         refine a_mv ?_
         refine a_lss ?_
         refine a_mv ?_
         refine RW.cases 93 _ rfl (fun hc => ?_) (fun hc => ?_)
         ·have h := cT hc h
          refine sk2 ?_
          refine sk2 ?_
          refine sk2 ?_
          refine sk2 ?_
          refine a_pick ?_
          refine a_mv ?_
          refine sk2 ?_
          refine sk2 ?_
          refine sk2 ?_
          refine a_pick ?_
          refine rN ?_
          refine CW.condT rfl ?_
          refine sR ?_
          refine a_as ?_
          refine rN ?_
          refine CW.ret ?_
          refine rA ?_
          obtain rfl := sI h
          exact rT
         ·have h := cF hc h
          refine g_ldp ?_
          refine g_ldp ?_
          obtain ⟨r22, hr22, h⟩ := bd h
          refine RW.cons (IxOk.guard 2 false 93 (x_call (xs := [.tmp 94, .tmp 95]) Try.call14 (t_laws_eqModule _ _ _ hr22) ⟨(agC _ rfl (cloA (cloC rfl (cloC rfl (cloC (cloS rfl rfl inferInstance) cloN)))) rfl), ⟨(agC _ rfl (cloA (cloC rfl (cloC rfl (cloC (cloS rfl rfl inferInstance) cloN)))) rfl), trivial⟩⟩ (resC (f := B) inferInstance resN) rfl)) ?_
          refine g_not ?_
          refine a_pick ?_
          refine a_mv ?_
          refine RW.cases 99 _ rfl (fun hc => ?_) (fun hc => ?_)
          ·have h := cT hc h
           refine sk2 ?_
           refine sk2 ?_
           refine sk2 ?_
           refine a_pick ?_
           refine rN ?_
           refine CW.condT rfl ?_
           refine sR ?_
           refine a_as ?_
           refine rN ?_
           refine CW.ret ?_
           refine rA ?_
           obtain rfl := sI h
           exact rT
          ·have h := cF hc h
           refine g_mv ?_
           refine g_mv ?_
           refine g_neq ?_
           refine a_pick ?_
           refine rN ?_
           refine cn h (fun hc h => ?_) (fun hc h => ?_)
           ·refine sR ?_
            refine a_as ?_
            refine rN ?_
            refine CW.ret ?_
            refine rA ?_
            obtain rfl := sI h
            exact rT
           ·refine CW.skip ?_
            refine nA ?_
            refine sR ?_
            refine a_as ?_
            refine rN ?_
            refine sR ?_
            refine a_ldp ?_
            refine a_mv ?_
            obtain ⟨r23, hr23, h⟩ := bd h
            refine oP (x_callA (xs := [.tmp 104, .tmp 105]) 0 104 13 [(2, [2, 0])] 2 Try.call17 (t_laws_markModule _ _ _ hr23) (.cons 2 [2, 0] _ _ _ _ _ rfl rfl rfl rfl (clean_of (cleanL (Enc.clean (f := lM)))) rfl rfl rfl (.nil _)) rfl (Enc.clean (f := eSModule) _) (Enc.rofree (f := eSModule) _) ⟨(agLd rfl (Enc.clean (f := eSModule) _) (Enc.rofree (f := eSModule) _)), ⟨(agM _ rfl rfl rfl), trivial⟩⟩ (resC (f := I) inferInstance resN) (.cons 2 [2, 0] _ _ _ _ _ _ rfl rfl rfl rfl (clean_of (cleanL (Enc.clean (f := lM)))) rfl rfl rfl (.nil _)) rfl rfl rfl) ?_
            refine a_as ?_
            refine rN ?_
            refine sR ?_
            refine a_as ?_
            refine rN ?_
            refine sR ?_
            refine a_ldp ?_
            refine a_mv ?_
            obtain ⟨r24, hr24, h⟩ := bd h
            refine oP (x_call (xs := [.tmp 107, .tmp 108]) Try.call18 (t_laws_heldModule _ _ _ hr24) ⟨(agC _ rfl (cloA (cloC rfl (cloC rfl (cloC (cloS rfl rfl inferInstance) cloN)))) rfl), ⟨(agC _ rfl rfl rfl), trivial⟩⟩ (resC (f := I) inferInstance resN) rfl) ?_
            refine a_as ?_
            refine rN ?_
            refine CW.seq ?_
            refine CW.seq ?_
            refine CW.to [(3, T.ptr (qPresentation x0)), (4, T.ptr (qModule x1)), (5, T.ptr (qModule x2)), (8, T.ptr (eSModule r7.1)), (9, I r7.2), (13, T.ptr (T.agg [I r11.1.Prime, I r11.1.Dim, L 1 lM r23.2.Actions])), (16, I r23.1), (17, I r24)] ⟨rfl, rfl, rfl, rfl, rfl, rfl, rfl, rfl, trivial⟩ ?_
            refine CW.region ?_
            refine a_mv ?_
            refine a_lss ?_
            refine rN ?_
            refine cn h (fun hc h => ?_) (fun hc h => ?_)
            ·refine sR ?_
             refine a_as ?_
             refine rN ?_
             refine CW.ret ?_
             refine rA ?_
             obtain rfl := sI h
             exact rT
            ·refine CW.skip ?_
             refine nA ?_
             refine CW.seq ?_
             refine sR ?_
             refine a_mv ?_
             refine a_mv ?_
             refine a_neq ?_
             refine rN ?_
             refine cn h (fun hc h => ?_) (fun hc h => ?_)
             ·refine sR ?_
              refine a_as ?_
              refine rN ?_
              refine CW.ret ?_
              refine rA ?_
              obtain rfl := sI h
              exact rT
             ·refine CW.skip ?_
              refine nA ?_
              refine CW.seq ?_
              obtain ⟨r25, hr25, h⟩ := bd h
              obtain ⟨r26, hr26, h⟩ := bd h
              obtain ⟨r27, hr27, h⟩ := bd h
              obtain ⟨r28, hr28, h⟩ := bd h
              refine CW.dk ?_
              refine d_ldp [(3, _)] ?_
              refine dG [(116, _)] [([(117, some (eSPresentation r25))], [(117, 0)])] ⟨rfl, trivial⟩ (fun E h => IxOk.opE (x_call (xs := [.tmp 116]) Try.call11 (t_laws_toPresentation _ _ hr25) ⟨(agC _ h.1 rfl rfl), trivial⟩ (resC (f := eSPresentation) inferInstance resN) rfl) rfl) ?_
              refine d_ldp [(4, _)] ?_
              refine dG [(118, _)] [([(119, some (eSModule r26))], [(119, 0)])] ⟨rfl, trivial⟩ (fun E h => IxOk.opE (x_call (xs := [.tmp 118]) Try.call12 (t_laws_toModule _ _ hr26) ⟨(agC _ h.1 rfl rfl), trivial⟩ (resC (f := eSModule) inferInstance resN) rfl) rfl) ?_
              refine d_ldp [(5, _)] ?_
              refine dG [(120, _)] [([(121, some (eSModule r27))], [(121, 0)])] ⟨rfl, trivial⟩ (fun E h => IxOk.opE (x_call (xs := [.tmp 120]) Try.call12 (t_laws_toModule _ _ hr27) ⟨(agC _ h.1 rfl rfl), trivial⟩ (resC (f := eSModule) inferInstance resN) rfl) rfl) ?_
              refine dG [(117, _), (119, _), (121, _)] [([(122, some (T.tup [eSModule r28.1, I r28.2]))], [(122, 0)])] ⟨rfl, rfl, rfl, trivial⟩ (fun E h => IxOk.opE (x_call (xs := [.tmp 117, .tmp 119, .tmp 121]) Try.call13 (t_impl_SumModules _ _ _ _ hr28) ⟨(agC _ h.1 (cloA (cloC (cloO inferInstance) (cloC (cloO inferInstance) (cloC (cloO inferInstance) cloN)))) rfl), ⟨(agC _ h.2.1 (cloA (cloC rfl (cloC rfl (cloC (cloO inferInstance) cloN)))) rfl), ⟨(agC _ h.2.2.1 (cloA (cloC rfl (cloC rfl (cloC (cloO inferInstance) cloN)))) rfl), trivial⟩⟩⟩ (resC (f := eSModule) inferInstance (resC (f := I) inferInstance resN)) rfl) rfl) ?_
              refine d_mvT [(122, _)] ?_
              refine d_ext [(115, _)] ?_
              refine d_ext [(115, _)] ?_
              refine d_alloc [] ?_
              refine dG [(123, _), (122, _), (18, _)] [([(123, some (eSModule r28.1)), (122, some (T.tup [T.agg [I r28.1.Prime, I r28.1.Dim, T.any], I r28.2]))], [(123, 2), (122, 3)]), ([(18, some (T.ptr (eSModule r28.1))), (123, some (T.agg [I r28.1.Prime, I r28.1.Dim, T.same 18 [2, 0]]))], [(18, 1), (123, 1)])] ⟨rfl, rfl, rfl, trivial⟩ (fun E h => IxOk.gh (Ghost.trf 123 [2] 122 [2, 0] _ _ h.1 rfl h.2.1 rfl rfl (clean_of (cleanL (Enc.clean (f := lM)))) rfl) <| IxOk.opE (x_stp inf_31 rfl (locB (keepE h.2.2.1) rfl) (keepE h.2.2.1) rfl rfl rfl (clean_of (cleanA ⟨(Enc.clean (f := I) _), (Enc.clean (f := I) _), (cleanL (Enc.clean (f := lM))), trivial⟩)) rfl) rfl) ?_
              refine d_as [(124, _)] ?_
              refine dNA mixedP ?_
              refine nA ?_
              refine CW.seq ?_
              refine sR ?_
              refine a_ldp ?_
              refine a_ldp ?_
              obtain ⟨r29, hr29, h⟩ := bd h
              refine oP (x_call (xs := [.tmp 125, .tmp 126]) Try.call14 (t_laws_eqModule _ _ _ hr29) ⟨(agC _ rfl (cloA (cloC rfl (cloC rfl (cloC (cloS rfl rfl inferInstance) cloN)))) rfl), ⟨(agC _ rfl (cloA (cloC rfl (cloC rfl (cloC (cloS rfl rfl inferInstance) cloN)))) rfl), trivial⟩⟩ (resC (f := B) inferInstance resN) rfl) ?_
              refine a_not ?_
              refine a_mv ?_
              refine RW.cases 129 _ rfl (fun hc => ?_) (fun hc => ?_)
              ·have h := cT hc h
               refine sk2 ?_
               refine sk2 ?_
               refine sk2 ?_
               refine a_pick ?_
               refine rN ?_
               refine CW.condT rfl ?_
               refine CW.seq ?_
               refine CW.to [] trivial ?_
               refine CW.region ?_
               refine a_as ?_
               refine rN ?_
               refine CW.ret ?_
               refine rA ?_
               obtain rfl := sI h
               exact rT
              ·have h := cF hc h
               refine g_mv ?_
               refine g_mv ?_
               refine g_neq ?_
               refine a_pick ?_
               refine rN ?_
               refine cn h (fun hc h => ?_) (fun hc h => ?_)
               ·refine CW.seq ?_
                refine CW.to [] trivial ?_
                refine CW.region ?_
                refine a_as ?_
                refine rN ?_
                refine CW.ret ?_
                refine rA ?_
                obtain rfl := sI h
                exact rT
               ·refine CW.skip ?_
                refine nA ?_
                refine CW.seq ?_
                refine CW.to [(13, T.ptr (T.agg [I r11.1.Prime, I r11.1.Dim, L 1 lM r23.2.Actions])), (16, I r23.1)] ⟨rfl, rfl, trivial⟩ ?_
                refine CW.region ?_
                refine a_as ?_
                refine rN ?_
                refine sR ?_
                refine a_ldp ?_
                refine a_mv ?_
                obtain ⟨r30, hr30, h⟩ := bd h
                refine oP (x_call (xs := [.tmp 134, .tmp 135]) Try.call18 (t_laws_heldModule _ _ _ hr30) ⟨(agC _ rfl (cloA (cloC rfl (cloC rfl (cloC (cloS rfl rfl inferInstance) cloN)))) rfl), ⟨(agC _ rfl rfl rfl), trivial⟩⟩ (resC (f := I) inferInstance resN) rfl) ?_
                refine a_as ?_
                refine rN ?_
                refine CW.seq ?_
                refine sR ?_
                refine a_mv ?_
                refine a_lss ?_
                refine rN ?_
                refine cn h (fun hc h => ?_) (fun hc h => ?_)
                ·refine sR ?_
                 refine a_as ?_
                 refine rN ?_
                 refine CW.ret ?_
                 refine rA ?_
                 obtain rfl := sI h
                 exact rT
                ·refine CW.skip ?_
                 refine nA ?_
                 refine CW.seq ?_
                 refine sR ?_
                 refine a_mv ?_
                 refine a_mv ?_
                 refine a_neq ?_
                 refine rN ?_
                 refine cn h (fun hc h => ?_) (fun hc h => ?_)
                 ·refine sR ?_
                  refine a_as ?_
                  refine rN ?_
                  refine CW.ret ?_
                  refine rA ?_
                  obtain rfl := sI h
                  exact rT
                 ·refine CW.skip ?_
                  refine nA ?_
                  refine sR ?_
                  refine a_as ?_
                  refine rN ?_
                  refine CW.ret ?_
                  obtain rfl := sI h
                  exact rT
end Go.Wk
