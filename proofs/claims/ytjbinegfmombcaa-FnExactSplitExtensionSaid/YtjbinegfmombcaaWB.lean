/- The program and the reference return the same split extensions, for all arguments (FnExactSplitExtension). This file is a part of the proof. -/
import Derived.Test.YtjbinegfmombcaaWA
namespace Go.Wk
open Go Go.Proofs Go.Ab
set_option maxRecDepth 100000
theorem t_impl_identityOf (x0 : Int) (x1 : Int) (r : SMatrix) (h : f_impl_identityOf x0 x1 = some r) : FnC Try.prog 136 [I x0, I x1] [eSMatrix r] [] := by
 refine fB Try.func136 (fun St W w0 v => ?_)
 refine sR ?_
 refine a_alloc ?_
 refine rN ?_
 refine sR ?_
 refine a_mv ?_
 refine a_mv ?_
 refine oP (x_build bld_76 [(0, .tmp 8), (1, .tmp 9)] [(0, .slot 8 (I x0)), (1, .slot 9 (I x1))] [.slot 8 (I x0), .slot 9 (I x1), .zero (L 1 lV [])] (pkS rfl (clean_of (Enc.clean (f := I) _)) rfl (pkS rfl (clean_of (Enc.clean (f := I) _)) rfl (pkZ rfl pkN))) (bqC (.slot _ _) (bqC (.slot _ _) bqN)) rfl) ?_
 refine a_alloc ?_
 refine oP (x_stp inf_76 rfl (locB rfl rfl) rfl rfl rfl rfl (clean_of (cleanA ⟨(Enc.clean (f := I) _), (Enc.clean (f := I) _), trivial, trivial⟩)) rfl) ?_
 refine rN ?_
 refine CW.seq ?_
 refine sR ?_
 refine a_mv ?_
 refine a_mv ?_
 refine rN ?_
 refine CW.block ?_
 obtain ⟨r5, hr5, h⟩ := bd h
 refine CW.lp (s := ([], 0)) (l1_impl_identityOf x1) (fun s1 : (List (List Int)) × Int => envL [(1, I x1), (4, T.ptr (T.agg [I 0, I 0, L 1 lV []])), (5, T.ptr (T.agg [I x0, I x1, L 1 lV s1.1])), (11, I x1), (12, I s1.2)]) (fun (r5 : (List (List Int))) e E => e = .exit 0 ∧ Ghost ⟨St, W, w0, Try.f136.ntmps⟩ E (envL [(4, T.ptr (T.agg [I 0, I 0, L 1 lV []])), (5, T.ptr (T.agg [I x0, I x1, L 1 lV r5]))])) (.has ⟨rfl, rfl, rfl, rfl, rfl, trivial⟩) (fun s1 x h => ?_) hr5 (fun e E hq => ?_)
 ·refine sR ?_
  refine a_lss ?_
  refine rN ?_
  refine CW.seq ?_
  refine cn h (fun hc h => ?_) (fun hc h => ?_)
  ·refine CW.skip ?_
   refine nA ?_
   refine CW.seq ?_
   refine CW.block ?_
   refine sR ?_
   refine a_mv ?_
   refine a_as ?_
   refine rN ?_
   refine sR ?_
   refine a_mv ?_
   obtain ⟨m1, hm1, h⟩ := bd h
   refine oP (x_makeL (f := I) (z := 0) elt_22 (rfl) hm1 rfl rfl rfl) ?_
   refine a_as ?_
   refine RW.ghost (Ghost.tr 7 16 _ rfl rfl (clean_of (cleanL (Enc.clean (f := I)))) rfl) ?_
   refine rN ?_
   refine sR ?_
   refine a_mv ?_
   refine a_mv ?_
   obtain ⟨v2, hv2, h⟩ := bd h
   refine a_ix ?_
   refine oP (x_stcT inf_2 rfl rfl rfl (getc hv2 rfl) (setc hv2 rfl) rfl rfl) ?_
   refine rN ?_
   refine CW.region ?_
   refine a_fa ?_
   refine a_ld ?_
   refine a_mv ?_
   refine RW.ghost (Ghost.tr 22 7 _ rfl rfl (clean_of (cleanL (Enc.clean (f := I)))) rfl) ?_
   refine oP (x_bs elt_23 [.tmp 22] [.slot 22 (L 1 I ((List.replicate m1 (0 : Int)).set s1.2.toNat 1))] [(List.replicate m1 (0 : Int)).set s1.2.toNat 1] lV ⟨.slot _ _, trivial⟩ (pkS rfl (clean_of (cleanL (Enc.clean (f := I)))) rfl pkN) rfl rfl) ?_
   refine RW.ghost (Ghost.trq 21 5 [2, 0] rfl rfl rfl (clean_of (cleanL (Enc.clean (f := lV)))) rfl) ?_
   obtain ⟨v3, hv3, h⟩ := bd h
   refine oP (x_appm (f := lV) elt_23 hv3 rfl rfl rfl) ?_
   refine a_fa ?_
   refine oP (x_st inf_23 rfl rfl rfl rfl rfl rfl (clean_of (cleanL (Enc.clean (f := lV)))) rfl) ?_
   refine RW.nil ?_
   refine nB ?_
   refine nA ?_
   refine CW.region ?_
   obtain ⟨v4, hv4, h⟩ := bd h
   refine a_add ?_
   refine a_mv ?_
   refine RW.nil ?_
   exact eN h
  ·refine CW.exit ?_
   refine xA ?_
   exact eX h
 ·obtain ⟨rfl, hg⟩ := hq
  refine xB ?_
  refine nA ?_
  refine CW.ghost hg ?_
  refine sR ?_
  refine a_ldp ?_
  refine RW.ghost (Ghost.trf 27 [2] 5 [2, 0] _ _ rfl rfl rfl rfl rfl (clean_of (cleanL (Enc.clean (f := lV)))) rfl) ?_
  refine oP (x_stp inf_76 rfl (locB rfl rfl) rfl rfl rfl rfl (clean_of (cleanA ⟨(Enc.clean (f := I) _), (Enc.clean (f := I) _), (cleanL (Enc.clean (f := lV))), trivial⟩)) rfl) ?_
  refine rN ?_
  refine CW.ret ?_
  obtain rfl := sI h
  exact ⟨_, Ghost.refl, ⟨.inl rfl, [(4, [0], T.agg [I x0, I x1, L 1 lV r5])], ⟨⟨rfl, rfl, rfl, (var_76.h _ rfl rfl).h⟩, trivial⟩, rfl, (by simp), (by simp), trivial⟩⟩
theorem t_impl_residue (x0 : Int) (x1 : Int) (r : Int) (h : f_impl_residue x0 x1 = some r) : FnC Try.prog 104 [I x0, I x1] [I r] [] := by
 refine fB Try.func104 (fun St W w0 v => ?_)
 refine sR ?_
 refine a_as ?_
 refine rN ?_
 refine sR ?_
 refine a_mv ?_
 refine a_mv ?_
 obtain ⟨v1, hv1, h⟩ := bd h
 refine a_rem ?_
 refine a_mv ?_
 obtain ⟨v2, hv2, h⟩ := bd h
 refine a_add ?_
 refine a_mv ?_
 obtain ⟨v3, hv3, h⟩ := bd h
 refine a_rem ?_
 refine a_as ?_
 refine rN ?_
 refine CW.ret ?_
 obtain rfl := sI h
 exact rT
theorem t_impl_addMultiple (x0 : List Int) (x1 : List Int) (x2 : Int) (x3 : Int) (r : (List Int)) (h : f_impl_addMultiple x0 x1 x2 x3 = some r) : FnC Try.prog 65 [L 1 I x0, T.ro (lV x1), I x2, I x3] [] [(0, lV r)] := by
 refine fB Try.func65 (fun St W w0 v => ?_)
 refine sR ?_
 refine a_mv ?_
 refine a_len ?_
 refine a_mv ?_
 refine rN ?_
 refine CW.block ?_
 obtain ⟨r8, hr8, h⟩ := bd h
 refine CW.lp (s := (x0, 0)) (l1_impl_addMultiple x0 x1 x2 x3) (fun s1 : (List Int) × Int => envL [(0, L 1 I s1.1), (1, T.ro (lV x1)), (2, I x2), (3, I x3), (10, I (x0.length : Int)), (11, I s1.2)]) (fun (r8 : (List Int)) e E => e = .exit 0 ∧ Ghost ⟨St, W, w0, Try.f65.ntmps⟩ E (envL [(0, L 1 I r8)])) (.has ⟨rfl, rfl, rfl, rfl, rfl, rfl, trivial⟩) (fun s1 x h => ?_) hr8 (fun e E hq => ?_)
 ·refine sR ?_
  refine a_lss ?_
  refine rN ?_
  refine CW.seq ?_
  refine cn h (fun hc h => ?_) (fun hc h => ?_)
  ·refine CW.skip ?_
   refine nA ?_
   refine CW.seq ?_
   refine CW.block ?_
   refine sR ?_
   refine a_mv ?_
   refine a_as ?_
   refine rN ?_
   obtain ⟨v1, hv1, h⟩ := bd h
   obtain ⟨v2, hv2, h⟩ := bd h
   obtain ⟨v3, hv3, h⟩ := bd h
   obtain ⟨v4, hv4, h⟩ := bd h
   obtain ⟨r5, hr5, h⟩ := bd h
   obtain ⟨v6, hv6, h⟩ := bd h
   refine CW.dk ?_
   refine d_mv [(0, _)] ?_
   refine d_mv [(8, _)] ?_
   refine d_mv [(0, _)] ?_
   refine d_mv [(8, _)] ?_
   refine dG [(16, _), (0, _), (17, _)] [([(18, some (T.addr 0 [s1.2.toNat]))], [(18, 0)])] ⟨rfl, rfl, rfl, trivial⟩ (fun E h => IxOk.opE (x_ix (f := I) row_22 hv1 (locA h.1 h.2.1 rfl rfl) h.2.2.1 rfl) rfl) ?_
   refine dG [(18, _), (0, _)] [([(19, some (I v1))], [(19, 0)])] ⟨rfl, rfl, trivial⟩ (fun E h => IxOk.opE (x_ld (var_2.h _ rfl rfl) h.1 h.2.1 (getc hv1 rfl) rfl) rfl) ?_
   refine d_mv [(2, _)] ?_
   refine d_mv [(1, _)] ?_
   refine d_mv [(8, _)] ?_
   refine d_ixr [(21, _), (22, _)] ?_
   refine d_ldr [(23, _)] ?_
   refine d_mul [(20, _), (24, _)] ?_
   refine d_add [(19, _), (25, _)] ?_ (h := fun _ h => (x_add hv4 h.1 h.2.1 rfl))
   refine d_mv [(3, _)] ?_
   refine dC [(26, _), (27, _)] Try.call104 (t_impl_residue _ _ _ hr5) ?_
   refine dG [(14, _), (0, _), (15, _)] [([(29, some (T.addr 0 [s1.2.toNat]))], [(29, 0)])] ⟨rfl, rfl, rfl, trivial⟩ (fun E h => IxOk.opE (x_ix (f := I) row_22 hv6 (locA h.1 h.2.1 rfl rfl) h.2.2.1 rfl) rfl) ?_
   refine dG [(29, _), (0, _), (28, _)] [([(0, some (L 1 I (s1.1.set s1.2.toNat r5)))], [(0, 1)])] ⟨rfl, rfl, rfl, trivial⟩ (fun E h => IxOk.opE (x_st inf_2 rfl h.1 h.2.1 (getc hv6 rfl) (setc hv6 rfl) h.2.2.1 (clean_of (Enc.clean (f := I) _)) rfl) rfl) ?_
   refine dNA mixedP ?_
   refine nB ?_
   refine nA ?_
   refine CW.region ?_
   obtain ⟨v7, hv7, h⟩ := bd h
   refine a_add ?_
   refine a_mv ?_
   refine RW.nil ?_
   exact eN h
  ·refine CW.exit ?_
   refine xA ?_
   exact eX h
 ·obtain ⟨rfl, hg⟩ := hq
  refine xB ?_
  obtain rfl := sI h
  exact rTg hg rT
theorem t_impl_vectorTimes (x0 : List Int) (x1 : SMatrix) (r : (List Int)) (h : f_impl_vectorTimes x0 x1 = some r) : FnC Try.prog 103 [T.ro (lV x0), qMatrix x1] [lV r] [] := by
 refine fB Try.func103 (fun St W w0 v => ?_)
 refine sR ?_
 refine a_box ?_
 refine oP (x_nil 1 rfl) ?_
 refine rN ?_
 refine sR ?_
 refine a_fa ?_
 refine a_ld ?_
 obtain ⟨m1, hm1, h⟩ := bd h
 refine oP (x_makeL (f := I) (z := 0) elt_22 (rfl) hm1 rfl rfl rfl) ?_
 refine a_as ?_
 refine RW.ghost (Ghost.tr 5 10 _ rfl rfl (clean_of (cleanL (Enc.clean (f := I)))) rfl) ?_
 refine rN ?_
 refine CW.seq ?_
 refine sR ?_
 refine a_mv ?_
 refine a_lenr ?_
 refine a_mv ?_
 refine rN ?_
 refine CW.block ?_
 obtain ⟨r6, hr6, h⟩ := bd h
 refine CW.lp (s := (List.replicate m1 (0 : Int), 0)) (l1_impl_vectorTimes x0 x1) (fun s1 : (List Int) × Int => envL [(3, T.ptr (qMatrix x1)), (5, L 1 I s1.1), (11, T.ro (lV x0)), (12, I (x0.length : Int)), (13, I s1.2)]) (fun (r6 : (List Int)) e E => e = .exit 0 ∧ Ghost ⟨St, W, w0, Try.f103.ntmps⟩ E (envL [(5, L 1 I r6)])) (.has ⟨rfl, rfl, rfl, rfl, rfl, trivial⟩) (fun s1 x h => ?_) hr6 (fun e E hq => ?_)
 ·refine sR ?_
  refine a_lss ?_
  refine rN ?_
  refine CW.seq ?_
  refine cn h (fun hc h => ?_) (fun hc h => ?_)
  ·refine CW.skip ?_
   refine nA ?_
   refine CW.seq ?_
   refine CW.block ?_
   refine sR ?_
   refine a_mv ?_
   obtain ⟨v2, hv2, h⟩ := bd h
   refine a_ixr ?_
   refine a_ldr ?_
   refine a_as ?_
   refine a_as ?_
   refine rN ?_
   obtain ⟨v3, hv3, h⟩ := bd h
   obtain ⟨r4, hr4, h⟩ := bd h
   refine CW.dk ?_
   refine d_mv [(5, _)] ?_
   refine d_fa [(3, _)] ?_
   refine d_ld [(19, _), (3, _)] ?_
   refine d_mv [(6, _)] ?_
   refine d_ixr [(20, _), (21, _)] ?_
   refine d_ldr [(22, _)] ?_
   refine d_mv [(7, _)] ?_
   refine d_fa [(3, _)] ?_
   refine d_ld [(25, _), (3, _)] ?_
   refine dG [(18, _), (5, _), (23, _), (24, _), (26, _)] [([(18, some (L 1 I s1.1)), (5, some (T.same 18 []))], [(18, 1), (5, 1)]), ([(27, some (T.tup [])), (18, some (L 1 I r4))], [(27, 0), (18, 1)]), ([(5, some (L 1 I r4)), (18, some (T.same 5 []))], [(5, 1), (18, 1)])] ⟨rfl, rfl, rfl, rfl, rfl, trivial⟩ (fun E h => IxOk.opE (x_callM (xs := [.tmp 18, .tmp 23, .tmp 24, .tmp 26]) 0 18 5 [] Try.call65 (t_impl_addMultiple _ _ _ _ _ hr4) h.1 h.2.1 rfl (clean_of (cleanL (Enc.clean (f := I)))) (clean_of (cleanL (Enc.clean (f := I)))) (Enc.rofree (f := L 1 I) _) (Enc.rofree (f := L 1 I) _) ⟨(agLd rfl (clean_of (cleanL (Enc.clean (f := I)))) (Enc.rofree (f := L 1 I) _)), ⟨(agM _ (keepL h.2.2.1) rfl rfl), ⟨(agM _ (keepL h.2.2.2.1) rfl rfl), ⟨(agM _ (keepL h.2.2.2.2.1) rfl rfl), trivial⟩⟩⟩⟩ resN rfl rfl rfl rfl) rfl) ?_
   refine dNA mixedP ?_
   refine nB ?_
   refine nA ?_
   refine CW.region ?_
   obtain ⟨v5, hv5, h⟩ := bd h
   refine a_add ?_
   refine a_mv ?_
   refine RW.nil ?_
   exact eN h
  ·refine CW.exit ?_
   refine xA ?_
   exact eX h
 ·obtain ⟨rfl, hg⟩ := hq
  refine xB ?_
  refine nA ?_
  refine CW.ghost hg ?_
  refine sR ?_
  refine a_mv ?_
  refine a_as ?_
  refine RW.ghost (Ghost.tr 4 5 _ rfl rfl (clean_of (cleanL (Enc.clean (f := I)))) rfl) ?_
  refine rN ?_
  refine CW.ret ?_
  obtain rfl := sI h
  exact rT
theorem t_impl_product (x0 : SMatrix) (x1 : SMatrix) (r : SMatrix) (h : f_impl_product x0 x1 = some r) : FnC Try.prog 64 [qMatrix x0, qMatrix x1] [eSMatrix r] [] := by
 refine fB Try.func64 (fun St W w0 v => ?_)
 refine sR ?_
 refine a_box ?_
 refine a_box ?_
 refine a_alloc ?_
 refine rN ?_
 refine sR ?_
 refine a_fa ?_
 refine a_ld ?_
 refine a_fa ?_
 refine a_ld ?_
 refine oP (x_build bld_76 [(0, .tmp 9), (1, .tmp 11)] [(0, .slot 9 (I x0.Prime)), (1, .slot 11 (I x1.Columns))] [.slot 9 (I x0.Prime), .slot 11 (I x1.Columns), .zero (L 1 lV [])] (pkS rfl (clean_of (Enc.clean (f := I) _)) rfl (pkS rfl (clean_of (Enc.clean (f := I) _)) rfl (pkZ rfl pkN))) (bqC (.slot _ _) (bqC (.slot _ _) bqN)) rfl) ?_
 refine a_alloc ?_
 refine oP (x_stp inf_76 rfl (locB rfl rfl) rfl rfl rfl rfl (clean_of (cleanA ⟨(Enc.clean (f := I) _), (Enc.clean (f := I) _), trivial, trivial⟩)) rfl) ?_
 refine rN ?_
 refine CW.seq ?_
 refine sR ?_
 refine a_fa ?_
 refine a_ld ?_
 refine a_lenr ?_
 refine a_mv ?_
 refine rN ?_
 refine CW.block ?_
 obtain ⟨r5, hr5, h⟩ := bd h
 refine CW.lp (s := ([], 0)) (l1_impl_product x0 x1) (fun s1 : (List (List Int)) × Int => envL [(3, T.ptr (qMatrix x1)), (4, T.ptr (T.agg [I 0, I 0, L 1 lV []])), (5, T.ptr (T.agg [I x0.Prime, I x1.Columns, L 1 lV s1.1])), (14, T.ro (lM x0.Rows)), (15, I (x0.Rows.length : Int)), (16, I s1.2)]) (fun (r5 : (List (List Int))) e E => e = .exit 0 ∧ Ghost ⟨St, W, w0, Try.f64.ntmps⟩ E (envL [(4, T.ptr (T.agg [I 0, I 0, L 1 lV []])), (5, T.ptr (T.agg [I x0.Prime, I x1.Columns, L 1 lV r5]))])) (.has ⟨rfl, rfl, rfl, rfl, rfl, rfl, trivial⟩) (fun s1 x h => ?_) hr5 (fun e E hq => ?_)
 ·refine sR ?_
  refine a_lss ?_
  refine rN ?_
  refine CW.seq ?_
  refine cn h (fun hc h => ?_) (fun hc h => ?_)
  ·refine CW.skip ?_
   refine nA ?_
   refine CW.seq ?_
   refine CW.block ?_
   refine sR ?_
   obtain ⟨v1, hv1, h⟩ := bd h
   refine a_ixr ?_
   refine a_ldr ?_
   refine a_as ?_
   refine rN ?_
   obtain ⟨r2, hr2, h⟩ := bd h
   obtain ⟨v3, hv3, h⟩ := bd h
   refine CW.dk ?_
   refine d_fa [(5, _)] ?_
   refine d_ld [(20, _), (5, _)] ?_
   refine d_mv [(7, _)] ?_
   refine d_ldp [(3, _)] ?_
   refine dC [(22, _), (23, _)] Try.call103 (t_impl_vectorTimes _ _ _ hr2) ?_
   refine dG [(24, _)] [([(25, some (L 1 lV [r2])), (24, some (T.same 25 [0]))], [(25, 0), (24, 1)])] ⟨rfl, trivial⟩ (fun E h => IxOk.opE (x_bs elt_23 [.tmp 24] [.slot 24 (L 1 I r2)] [r2] lV ⟨.slot _ _, trivial⟩ (pkS h.1 (clean_of (cleanL (Enc.clean (f := I)))) rfl pkN) rfl rfl) rfl) ?_
   refine dG [(21, T.same 5 [2, 0]), (5, T.ptr (T.agg [I x0.Prime, I x1.Columns, L 1 lV s1.1])), (25, L 1 lV [r2])] [([(21, some (L 1 lV s1.1)), (5, some (T.ptr (T.agg [I x0.Prime, I x1.Columns, T.any])))], [(21, 1), (5, 3)]), ([(26, some (L 1 lV v3)), (21, some T.any), (25, some T.any)], [(26, 0), (21, 1), (25, 1)])] ⟨rfl, rfl, rfl, trivial⟩ (fun E h => IxOk.gh (Ghost.trq 21 5 [2, 0] h.1 h.2.1 rfl (clean_of (cleanL (Enc.clean (f := lV)))) rfl) <| IxOk.opE (x_appm (f := lV) elt_23 hv3 rfl (keepE h.2.2.1) rfl) rfl) ?_
   refine d_fa [(5, _)] ?_
   refine dG [(27, _), (5, _), (26, _)] [([(5, some (T.ptr (T.agg [I x0.Prime, I x1.Columns, L 1 lV v3]))), (26, some (T.same 5 [2, 0]))], [(5, 2), (26, 1)])] ⟨rfl, rfl, rfl, trivial⟩ (fun E h => IxOk.opE (x_st inf_23 rfl h.1 h.2.1 rfl rfl h.2.2.1 (clean_of (cleanL (Enc.clean (f := lV)))) rfl) rfl) ?_
   refine dNA mixedP ?_
   refine nB ?_
   refine nA ?_
   refine CW.region ?_
   obtain ⟨v4, hv4, h⟩ := bd h
   refine a_add ?_
   refine a_mv ?_
   refine RW.nil ?_
   exact eN h
  ·refine CW.exit ?_
   refine xA ?_
   exact eX h
 ·obtain ⟨rfl, hg⟩ := hq
  refine xB ?_
  refine nA ?_
  refine CW.ghost hg ?_
  refine sR ?_
  refine a_ldp ?_
  refine RW.ghost (Ghost.trf 29 [2] 5 [2, 0] _ _ rfl rfl rfl rfl rfl (clean_of (cleanL (Enc.clean (f := lV)))) rfl) ?_
  refine oP (x_stp inf_76 rfl (locB rfl rfl) rfl rfl rfl rfl (clean_of (cleanA ⟨(Enc.clean (f := I) _), (Enc.clean (f := I) _), (cleanL (Enc.clean (f := lV))), trivial⟩)) rfl) ?_
  refine rN ?_
  refine CW.ret ?_
  obtain rfl := sI h
  exact ⟨_, Ghost.refl, ⟨.inl rfl, [(4, [0], T.agg [I x0.Prime, I x1.Columns, L 1 lV r5])], ⟨⟨rfl, rfl, rfl, (var_76.h _ rfl rfl).h⟩, trivial⟩, rfl, (by simp), (by simp), trivial⟩⟩
theorem t_impl_actionOf (x0 : SModule) (x1 : List Int) (r : SMatrix) (h : f_impl_actionOf x0 x1 = some r) : FnC Try.prog 98 [T.ro ((Pt eSModule) x0), T.ro (lV x1)] [eSMatrix r] [] := by
 refine fB Try.func98 (fun St W w0 v => ?_)
 refine sR ?_
 refine a_alloc ?_
 refine rN ?_
 refine CW.seq ?_
 obtain ⟨r1, hr1, h⟩ := bd h
 refine CW.dk ?_
 refine d_mv [(0, _)] ?_
 refine d_nilc [(8, _)] ?_
 refine d_far [(9, _)] ?_
 refine d_ldr [(10, _)] ?_
 refine d_mv [(0, _)] ?_
 refine d_nilc [(12, _)] ?_
 refine d_far [(13, _)] ?_
 refine d_ldr [(14, _)] ?_
 refine dC [(11, _), (15, _)] Try.call136 (t_impl_identityOf _ _ _ hr1) ?_
 refine d_alloc [] ?_
 refine dG [(5, _), (16, _)] [([(5, some (T.ptr (eSMatrix r1))), (16, some (T.agg [I r1.Prime, I r1.Columns, T.same 5 [2, 0]]))], [(5, 1), (16, 1)])] ⟨rfl, rfl, trivial⟩ (fun E h => IxOk.opE (x_stp inf_76 rfl (locB h.1 rfl) h.1 rfl rfl h.2.1 (clean_of (cleanA ⟨(Enc.clean (f := I) _), (Enc.clean (f := I) _), (cleanL (Enc.clean (f := lV))), trivial⟩)) rfl) rfl) ?_
 refine dNA mixedP ?_
 refine nA ?_
 refine CW.seq ?_
 refine sR ?_
 refine a_mv ?_
 refine a_lenr ?_
 refine a_mv ?_
 refine rN ?_
 refine CW.block ?_
 obtain ⟨r7, hr7, h⟩ := bd h
 refine CW.lp (s := (r1.Prime, r1.Columns, r1.Rows, 0)) (l1_impl_actionOf x0 x1) (fun s1 : Int × Int × (List (List Int)) × Int => envL [(0, T.ro ((Pt eSModule) x0)), (4, T.ptr (T.agg [I 0, I 0, L 1 lV []])), (5, T.ptr (T.agg [I s1.1, I s1.2.1, L 1 lV s1.2.2.1])), (17, T.ro (lV x1)), (18, I (x1.length : Int)), (19, I s1.2.2.2)]) (fun (r7 : (Int × Int × (List (List Int)))) e E => e = .exit 0 ∧ Ghost ⟨St, W, w0, Try.f98.ntmps⟩ E (envL [(4, T.ptr (T.agg [I 0, I 0, L 1 lV []])), (5, T.ptr (T.agg [I r7.1, I r7.2.1, L 1 lV r7.2.2]))])) (.has ⟨rfl, rfl, rfl, rfl, rfl, rfl, trivial⟩) (fun s1 x h => ?_) hr7 (fun e E hq => ?_)
 ·refine sR ?_
  refine a_lss ?_
  refine rN ?_
  refine CW.seq ?_
  refine cn h (fun hc h => ?_) (fun hc h => ?_)
  ·refine CW.skip ?_
   refine nA ?_
   refine CW.seq ?_
   refine CW.block ?_
   refine sR ?_
   obtain ⟨v2, hv2, h⟩ := bd h
   refine a_ixr ?_
   refine a_ldr ?_
   refine a_as ?_
   refine rN ?_
   obtain ⟨v3, hv3, h⟩ := bd h
   obtain ⟨r4, hr4, h⟩ := bd h
   obtain ⟨r5, hr5, h⟩ := bd h
   refine CW.dk ?_
   refine d_ldp [(5, _)] ?_
   refine d_mv [(0, _)] ?_
   refine d_mv [(7, _)] ?_
   refine d_sub [(25, _)] ?_
   refine dG [(24, _), (26, _)] [([(27, some (qMatrix r4))], [(27, 0)])] ⟨rfl, rfl, trivial⟩ (fun E h => IxOk.opE (x_callF (xs := [.tmp 24, .tmp 26]) Try.call60 (t_impl_actionAt _ _ _ hr4) (afC h.1 rfl (afC h.2.1 rfl afN)) rfl ⟨(cleanA ⟨(Enc.clean (f := I) _), (Enc.clean (f := I) _), trivial, trivial⟩), trivial⟩ rfl rfl) rfl) ?_
   refine dG [(23, _), (5, _), (27, _)] [([(28, some (eSMatrix r5))], [(28, 0)])] ⟨rfl, rfl, rfl, trivial⟩ (fun E h => IxOk.opE (x_call (xs := [.tmp 23, .tmp 27]) Try.call64 (t_impl_product _ _ _ hr5) ⟨(agC _ h.1 (cloA (cloC rfl (cloC rfl (cloC (cloS h.2.1 rfl inferInstance) cloN)))) rfl), ⟨(agC _ h.2.2.1 rfl rfl), trivial⟩⟩ (resC (f := eSMatrix) inferInstance resN) rfl) rfl) ?_
   refine dG [(5, _), (28, _)] [([(5, some (T.ptr (eSMatrix r5))), (28, some (T.agg [I r5.Prime, I r5.Columns, T.same 5 [2, 0]]))], [(5, 1), (28, 1)])] ⟨rfl, rfl, trivial⟩ (fun E h => IxOk.opE (x_stp inf_76 rfl (locB h.1 rfl) h.1 rfl rfl h.2.1 (clean_of (cleanA ⟨(Enc.clean (f := I) _), (Enc.clean (f := I) _), (cleanL (Enc.clean (f := lV))), trivial⟩)) rfl) rfl) ?_
   refine dNA mixedP ?_
   refine nB ?_
   refine nA ?_
   refine CW.region ?_
   obtain ⟨v6, hv6, h⟩ := bd h
   refine a_add ?_
   refine a_mv ?_
   refine RW.nil ?_
   exact eN h
  ·refine CW.exit ?_
   refine xA ?_
   exact eX h
 ·obtain ⟨rfl, hg⟩ := hq
  refine xB ?_
  refine nA ?_
  refine CW.ghost hg ?_
  refine sR ?_
  refine a_ldp ?_
  refine RW.ghost (Ghost.trf 30 [2] 5 [2, 0] _ _ rfl rfl rfl rfl rfl (clean_of (cleanL (Enc.clean (f := lV)))) rfl) ?_
  refine oP (x_stp inf_76 rfl (locB rfl rfl) rfl rfl rfl rfl (clean_of (cleanA ⟨(Enc.clean (f := I) _), (Enc.clean (f := I) _), (cleanL (Enc.clean (f := lV))), trivial⟩)) rfl) ?_
  refine rN ?_
  refine CW.ret ?_
  obtain rfl := sI h
  exact ⟨_, Ghost.refl, ⟨.inl rfl, [(4, [0], T.agg [I r7.1, I r7.2.1, L 1 lV r7.2.2])], ⟨⟨rfl, rfl, rfl, (var_76.h _ rfl rfl).h⟩, trivial⟩, rfl, (by simp), (by simp), trivial⟩⟩
theorem t_slices_EqualFunc_int64_int64_int64_int64 (x0 : List (List Int)) (x1 : List (List Int)) (r : Bool) (h : f_slices_EqualFunc_int64_int64_int64_int64 x0 x1 = some r) : FnC Try.prog 134 [T.ro (lM x0), T.ro (lM x1), T.lit (.func (.func 135) #[] #[])] [B r] [] := by
 refine fB Try.func134 (fun St W w0 v => ?_)
 refine sR ?_
 refine a_as ?_
 refine rN ?_
 refine CW.seq ?_
 refine sR ?_
 refine a_mv ?_
 refine a_lenr ?_
 refine a_mv ?_
 refine a_lenr ?_
 refine a_neq ?_
 refine rN ?_
 refine cn h (fun hc h => ?_) (fun hc h => ?_)
 ·refine sR ?_
  refine a_as ?_
  refine rN ?_
  refine CW.ret ?_
  refine rA ?_
  obtain rfl := sI h
  exact rT
 ·refine CW.skip ?_
  refine nA ?_
  refine CW.seq ?_
  refine sR ?_
  refine a_mv ?_
  refine a_lenr ?_
  refine a_mv ?_
  refine rN ?_
  refine CW.block ?_
  obtain ⟨r5, hr5, h⟩ := bd h
  refine CW.lp (s := 0) (l1_slices_EqualFunc_int64_int64_int64_int64 x0 x1) (fun s1 : Int => envL [(1, T.ro (lM x1)), (2, T.lit (.func (.func 135) #[] #[])), (15, T.ro (lM x0)), (16, I (x0.length : Int)), (17, I s1)]) (fun (x : Unit ⊕ Bool) e E => match x with | (.inl r5) => e = .exit 0 ∧ Ghost ⟨St, W, w0, Try.f134.ntmps⟩ E (envL []) | (.inr r5) => e = .ret ∧ RetG ⟨St, W, w0, Try.f134.ntmps⟩ Try.prog Try.f134.results [T.ro (lM x0), T.ro (lM x1), T.lit (.func (.func 135) #[] #[])] [B r5] [] .ret E) (.has ⟨rfl, rfl, rfl, rfl, rfl, trivial⟩) (fun s1 x h => ?_) hr5 (fun e E hq => ?_)
  ·refine sR ?_
   refine a_lss ?_
   refine rN ?_
   refine CW.seq ?_
   refine cn h (fun hc h => ?_) (fun hc h => ?_)
   ·refine CW.skip ?_
    refine nA ?_
    refine CW.seq ?_
    refine CW.block ?_
    refine sR ?_
    refine a_mv ?_
    obtain ⟨v1, hv1, h⟩ := bd h
    refine a_ixr ?_
    refine a_ldr ?_
    refine a_as ?_
    refine a_as ?_
    refine rN ?_
    refine sR ?_
    refine a_mv ?_
    refine a_mv ?_
    obtain ⟨v2, hv2, h⟩ := bd h
    refine a_ixr ?_
    refine a_ldr ?_
    refine a_as ?_
    refine rN ?_
    refine sR ?_
    refine a_mv ?_
    refine a_mv ?_
    refine a_mv ?_
    obtain ⟨r3, hr3, h⟩ := bd h
    refine oP (x_callV (xs := [.tmp 27, .tmp 28]) rfl Try.call135 (t_slices_Equal_int64_int64 _ _ _ hr3) ⟨(agC _ rfl rfl rfl), ⟨(agC _ rfl rfl rfl), trivial⟩⟩ (resC (f := B) inferInstance resN) rfl) ?_
    refine a_not ?_
    refine rN ?_
    refine cn h (fun hc h => ?_) (fun hc h => ?_)
    ·refine sR ?_
     refine a_as ?_
     refine rN ?_
     refine CW.ret ?_
     refine rB ?_
     refine rA ?_
     exact eX h
    ·refine CW.skip ?_
     refine nB ?_
     refine nA ?_
     refine CW.region ?_
     obtain ⟨v4, hv4, h⟩ := bd h
     refine a_add ?_
     refine a_mv ?_
     refine RW.nil ?_
     exact eN h
   ·refine CW.exit ?_
    refine xA ?_
    exact eX h
  ·rcases r5 with r5 | r5
   ·obtain ⟨rfl, hg⟩ := hq
    refine xB ?_
    refine nA ?_
    refine CW.ghost hg ?_
    refine sR ?_
    refine a_as ?_
    refine rN ?_
    refine CW.ret ?_
    obtain rfl := sI h
    exact rT
   ·obtain ⟨rfl, hq⟩ := hq
    refine rB ?_
    refine rA ?_
    obtain rfl := sI h
    exact hq
theorem t_impl_sameRows (x0 : List (List Int)) (x1 : List (List Int)) (r : Bool) (h : f_impl_sameRows x0 x1 = some r) : FnC Try.prog 97 [T.ro (lM x0), T.ro (lM x1)] [B r] [] := by
 refine fB Try.func97 (fun St W w0 v => ?_)
 refine sR ?_
 refine a_as ?_
 refine rN ?_
 refine sR ?_
 refine a_mv ?_
 refine a_mv ?_
 obtain ⟨r1, hr1, h⟩ := bd h
 refine cA Try.call134 (t_slices_EqualFunc_int64_int64_int64_int64 _ _ _ hr1) ?_
 refine a_as ?_
 refine rN ?_
 refine CW.ret ?_
 obtain rfl := sI h
 exact rT
theorem t_impl_isModule (x0 : SPresentation) (x1 : SModule) (r : Bool) (h : f_impl_isModule x0 x1 = some r) : FnC Try.prog 58 [T.ro ((Pt eSPresentation) x0), T.ro ((Pt eSModule) x1)] [B r] [] := by
 refine fB Try.func58 (fun St W w0 v => ?_)
 refine sR ?_
 refine a_as ?_
 refine rN ?_
 refine CW.seq ?_
 refine CW.seq ?_
 obtain ⟨r1, hr1, h⟩ := bd h
 refine CW.casesB (!r1) (fun hc0 => ?_) (fun hc0 => ?_)
 ·have h := cT hc0 h
  refine CW.dk ?_
  refine d_mv [(0, _)] ?_
  refine d_nilc [(9, _)] ?_
  refine d_ldr [(10, _)] ?_
  refine dC [(11, _)] Try.call48 (t_impl_IsConsistent _ _ hr1) ?_
  refine dG [(12, _)] [([(13, some (B true))], [(13, 0)])] ⟨rfl, trivial⟩ (fun E h => IxOk.opE (okB_eq hc0 (x_not h.1 rfl)) rfl) ?_
  refine d_mv [(13, _)] ?_
  refine dsk2 ?_
  refine dsk2 ?_
  refine dsk2 ?_
  refine dsk2 ?_
  refine dsk2 ?_
  refine dsk2 ?_
  refine d_pick [(14, _)] ?_
  refine d_mv [(21, _)] ?_
  refine dsk2 ?_
  refine dsk2 ?_
  refine dsk2 ?_
  refine dsk2 ?_
  refine dsk2 ?_
  refine dsk2 ?_
  refine d_pick [(22, _)] ?_
  refine d_mv [(29, _)] ?_
  refine dsk2 ?_
  refine dsk2 ?_
  refine dsk2 ?_
  refine dsk2 ?_
  refine dsk2 ?_
  refine dsk2 ?_
  refine dsk2 ?_
  refine dsk2 ?_
  refine dsk2 ?_
  refine dsk2 ?_
  refine dsk2 ?_
  refine d_pick [(30, _)] ?_
  refine dN ([] :: [0] :: [0, 1] :: [0, 1, 2] :: [0, 1, 2, 3] :: [0, 1, 2, 3, 4] :: [0, 1, 2, 3, 4, 5] :: [0, 1, 2, 3, 4, 5, 6] :: [0, 1, 2, 3, 4, 5, 6, 7] :: [0, 1, 2, 3, 4, 5, 6, 7, 8] :: [0, 1, 2, 3, 4, 5, 6, 7, 8, 9] :: [0, 1, 2, 3, 4, 5, 6, 7, 8, 9, 10] :: [0, 1, 2, 3, 4, 5, 6, 7, 8, 9, 10, 11] :: [0, 1, 2, 3, 4, 5, 6, 7, 8, 9, 10, 11, 12] :: [0, 1, 2, 3, 4, 5, 6, 7, 8, 9, 10, 11, 12, 13] :: [0, 1, 2, 3, 4, 5, 6, 7, 8, 9, 10, 11, 12, 13, 14] :: [0, 1, 2, 3, 4, 5, 6, 7, 8, 9, 10, 11, 12, 13, 14, 15] :: [0, 1, 2, 3, 4, 5, 6, 7, 8, 9, 10, 11, 12, 13, 14, 15, 16] :: [0, 1, 2, 3, 4, 5, 6, 7, 8, 9, 10, 11, 12, 13, 14, 15, 16, 17] :: [0, 1, 2, 3, 4, 5, 6, 7, 8, 9, 10, 11, 12, 13, 14, 15, 16, 17, 18] :: [0, 1, 2, 3, 4, 5, 6, 7, 8, 9, 10, 11, 12, 13, 14, 15, 16, 17, 18, 19] :: [0, 1, 2, 3, 4, 5, 6, 7, 8, 9, 10, 11, 12, 13, 14, 15, 16, 17, 18, 19, 20] :: [0, 1, 2, 3, 4, 5, 6, 7, 8, 9, 10, 11, 12, 13, 14, 15, 16, 17, 18, 19, 20, 21] :: [0, 1, 2, 3, 4, 5, 6, 7, 8, 9, 10, 11, 12, 13, 14, 15, 16, 17, 18, 19, 20, 21, 22] :: [0, 1, 2, 3, 4, 5, 6, 7, 8, 9, 10, 11, 12, 13, 14, 15, 16, 17, 18, 19, 20, 21, 22, 23] :: [0, 1, 2, 3, 4, 5, 6, 7, 8, 9, 10, 11, 12, 13, 14, 15, 16, 17, 18, 19, 20, 21, 22, 23, 24] :: [0, 1, 2, 3, 4, 5, 6, 7, 8, 9, 10, 11, 12, 13, 14, 15, 16, 17, 18, 19, 20, 21, 22, 23, 24, 25] :: [0, 1, 2, 3, 4, 5, 6, 7, 8, 9, 10, 11, 12, 13, 14, 15, 16, 17, 18, 19, 20, 21] :: [0, 1, 2, 3, 4, 5, 6, 7, 8, 9, 10, 11, 12, 13, 14, 15, 16, 17, 18, 19, 20, 21, 27] :: [0, 1, 2, 3, 4, 5, 6, 7, 8, 9, 10, 11, 12, 13, 14, 15, 16, 17, 18, 19, 20, 21, 27, 28] :: [0, 1, 2, 3, 4, 5, 6, 7, 8, 9, 10, 11, 12, 13, 14, 15, 16, 17, 18, 19, 20, 21, 27, 28, 29] :: [0, 1, 2, 3, 4, 5, 6, 7, 8, 9, 10, 11, 12, 13, 14, 15, 16, 17, 18, 19, 20, 21, 27, 28, 29, 30] :: [0, 1, 2, 3, 4, 5, 6, 7, 8, 9, 10, 11, 12, 13, 14, 15, 16, 17, 18, 19, 20, 21, 22, 23, 24, 25, 26, 27, 28, 29, 30, 31] :: [0, 1, 2, 3, 4, 5, 6, 7, 8, 9, 10, 11, 12, 13, 14, 15, 16, 17, 18, 19, 20, 21, 22, 23, 24, 25, 26, 27, 28, 29, 30, 31, 32] :: []) mixedP ?_
  refine nA ?_
  refine CW.condT rfl ?_
  refine CW.seq ?_
  refine CW.to [] trivial ?_
  refine CW.region ?_
  refine a_as ?_
  refine rN ?_
  refine CW.ret ?_
  refine rA ?_
  obtain rfl := sI h
  exact rT
 ·have h := cF hc0 h
  obtain ⟨r2, hr2, h⟩ := bd h
  refine CW.casesB (!r2) (fun hc1 => ?_) (fun hc1 => ?_)
  ·have h := cT hc1 h
   refine CW.dk ?_
   refine d_mv [(0, _)] ?_
   refine d_nilc [(9, _)] ?_
   refine d_ldr [(10, _)] ?_
   refine dC [(11, _)] Try.call48 (t_impl_IsConsistent _ _ hr1) ?_
   refine dG [(12, _)] [([(13, some (B false))], [(13, 0)])] ⟨rfl, trivial⟩ (fun E h => IxOk.opE (okB_eq hc0 (x_not h.1 rfl)) rfl) ?_
   refine d_mv [(13, _)] ?_
   refine e_mv [(1, _), (14, _)] ?_
   refine e_nilc [(15, _), (14, _)] ?_
   refine e_far [(16, _), (14, _)] ?_
   refine e_ldr [(17, _), (14, _)] ?_
   refine dG [(18, _), (14, _)] [([(19, some (B r2))], [(19, 0)])] ⟨rfl, rfl, trivial⟩ (fun E h => IxOk.guardE 5 false 14 (x_call (xs := [.tmp 18]) Try.call93 (t_impl_IsGroupPrime _ _ hr2) ⟨(agC _ h.1 rfl rfl), trivial⟩ (resC (f := B) inferInstance resN) rfl) rfl rfl h.2.1 rfl) ?_
   refine dG [(19, _), (14, _)] [([(20, some (B true))], [(20, 0)])] ⟨rfl, rfl, trivial⟩ (fun E h => IxOk.guardE 5 false 14 (okB_eq hc1 (x_not h.1 rfl)) rfl rfl h.2.1 rfl) ?_
   refine d_pick [(14, _), (20, _)] ?_
   refine d_mv [(21, _)] ?_
   refine dsk2 ?_
   refine dsk2 ?_
   refine dsk2 ?_
   refine dsk2 ?_
   refine dsk2 ?_
   refine dsk2 ?_
   refine d_pick [(22, _)] ?_
   refine d_mv [(29, _)] ?_
   refine dsk2 ?_
   refine dsk2 ?_
   refine dsk2 ?_
   refine dsk2 ?_
   refine dsk2 ?_
   refine dsk2 ?_
   refine dsk2 ?_
   refine dsk2 ?_
   refine dsk2 ?_
   refine dsk2 ?_
   refine dsk2 ?_
   refine d_pick [(30, _)] ?_
   refine dN ([] :: [0] :: [0, 1] :: [0, 1, 2] :: [0, 1, 2, 3] :: [0, 1, 2, 3, 4] :: [0, 1, 2, 3, 4, 5] :: [0, 1, 2, 3, 4, 5, 6] :: [0, 1, 2, 3, 4, 5, 6, 7] :: [0, 1, 2, 3, 4, 5, 6, 7, 8] :: [0, 1, 2, 3, 4, 5, 6, 7, 8, 9] :: [0, 1, 2, 3, 4, 5, 6, 7, 8, 9, 10] :: [0, 1, 2, 3, 4, 5, 6, 7, 8, 9, 10, 11] :: [0, 1, 2, 3, 4, 5, 6, 7, 8, 9, 10, 11, 12] :: [0, 1, 2, 3, 4, 5, 6, 7, 8, 9, 10, 11, 12, 13] :: [0, 1, 2, 3, 4, 5, 6, 7, 8, 9, 10, 11, 12, 13, 14] :: [0, 1, 2, 3, 4, 5, 6, 7, 8, 9, 10, 11, 12, 13, 14, 15] :: [0, 1, 2, 3, 4, 5, 6, 7, 8, 9, 10, 11, 12, 13, 14, 15, 16] :: [0, 1, 2, 3, 4, 5, 6, 7, 8, 9, 10, 11, 12, 13, 14, 15, 16, 17] :: [0, 1, 2, 3, 4, 5, 6, 7, 8, 9, 10, 11, 12, 13, 14, 15, 16, 17, 18] :: [0, 1, 2, 3, 4, 5, 6, 7, 8, 9, 10, 11, 12, 13, 14, 15, 16, 17, 18, 19] :: [0, 1, 2, 3, 4, 5, 6, 7, 8, 9, 10, 11, 12, 13, 14, 15, 16, 17, 18, 19, 20] :: [0, 1, 2, 3, 4, 5, 6, 7, 8, 9, 10, 11, 12, 13, 14, 15, 16, 17, 18, 19, 20, 21] :: [0, 1, 2, 3, 4, 5, 6, 7, 8, 9, 10, 11, 12, 13, 14, 15, 16, 17, 18, 19, 20, 21, 22] :: [0, 1, 2, 3, 4, 5, 6, 7, 8, 9, 10, 11, 12, 13, 14, 15, 16, 17, 18, 19, 20, 21, 22, 23] :: [0, 1, 2, 3, 4, 5, 6, 7, 8, 9, 10, 11, 12, 13, 14, 15, 16, 17, 18, 19, 20, 21, 22, 23, 24] :: [0, 1, 2, 3, 4, 5, 6, 7, 8, 9, 10, 11, 12, 13, 14, 15, 16, 17, 18, 19, 20, 21, 22, 23, 24, 25] :: [0, 1, 2, 3, 4, 5, 6, 7, 8, 9, 10, 11, 12, 13, 14, 15, 16, 17, 18, 19, 20, 21] :: [0, 1, 2, 3, 4, 5, 6, 7, 8, 9, 10, 11, 12, 13, 14, 15, 16, 17, 18, 19, 20, 21, 27] :: [0, 1, 2, 3, 4, 5, 6, 7, 8, 9, 10, 11, 12, 13, 14, 15, 16, 17, 18, 19, 20, 21, 27, 28] :: [0, 1, 2, 3, 4, 5, 6, 7, 8, 9, 10, 11, 12, 13, 14, 15, 16, 17, 18, 19, 20, 21, 27, 28, 29] :: [0, 1, 2, 3, 4, 5, 6, 7, 8, 9, 10, 11, 12, 13, 14, 15, 16, 17, 18, 19, 20, 21, 27, 28, 29, 30] :: [0, 1, 2, 3, 4, 5, 6, 7, 8, 9, 10, 11, 12, 13, 14, 15, 16, 17, 18, 19, 20, 21, 22, 23, 24, 25, 26, 27, 28, 29, 30, 31] :: [0, 1, 2, 3, 4, 5, 6, 7, 8, 9, 10, 11, 12, 13, 14, 15, 16, 17, 18, 19, 20, 21, 22, 23, 24, 25, 26, 27, 28, 29, 30, 31, 32] :: []) mixedP ?_
   refine nA ?_
   refine CW.condT rfl ?_
   refine CW.seq ?_
   refine CW.to [] trivial ?_
   refine CW.region ?_
   refine a_as ?_
   refine rN ?_
   refine CW.ret ?_
   refine rA ?_
   obtain rfl := sI h
   exact rT
  ·have h := cF hc1 h
   obtain ⟨r3, hr3, h⟩ := bd h
   refine CW.casesB (!r3) (fun hc2 => ?_) (fun hc2 => ?_)
   ·have h := cT hc2 h
    refine CW.dk ?_
    refine d_mv [(0, _)] ?_
    refine d_nilc [(9, _)] ?_
    refine d_ldr [(10, _)] ?_
    refine dC [(11, _)] Try.call48 (t_impl_IsConsistent _ _ hr1) ?_
    refine dG [(12, _)] [([(13, some (B false))], [(13, 0)])] ⟨rfl, trivial⟩ (fun E h => IxOk.opE (okB_eq hc0 (x_not h.1 rfl)) rfl) ?_
    refine d_mv [(13, _)] ?_
    refine e_mv [(1, _), (14, _)] ?_
    refine e_nilc [(15, _), (14, _)] ?_
    refine e_far [(16, _), (14, _)] ?_
    refine e_ldr [(17, _), (14, _)] ?_
    refine dG [(18, _), (14, _)] [([(19, some (B r2))], [(19, 0)])] ⟨rfl, rfl, trivial⟩ (fun E h => IxOk.guardE 5 false 14 (x_call (xs := [.tmp 18]) Try.call93 (t_impl_IsGroupPrime _ _ hr2) ⟨(agC _ h.1 rfl rfl), trivial⟩ (resC (f := B) inferInstance resN) rfl) rfl rfl h.2.1 rfl) ?_
    refine dG [(19, _), (14, _)] [([(20, some (B false))], [(20, 0)])] ⟨rfl, rfl, trivial⟩ (fun E h => IxOk.guardE 5 false 14 (okB_eq hc1 (x_not h.1 rfl)) rfl rfl h.2.1 rfl) ?_
    refine d_pick [(14, _), (20, _)] ?_
    refine d_mv [(21, _)] ?_
    refine e_mv [(1, _), (22, _)] ?_
    refine e_nilc [(23, _), (22, _)] ?_
    refine e_far [(24, _), (22, _)] ?_
    refine e_ldr [(25, _), (22, _)] ?_
    refine dG [(26, _), (22, _)] [([(27, some (B r3))], [(27, 0)])] ⟨rfl, rfl, trivial⟩ (fun E h => IxOk.guardE 13 false 22 (x_call (xs := [.tmp 26, .const _, .const _]) Try.call94 (t_impl_inside _ _ _ _ hr3) ⟨(agC _ h.1 rfl rfl), ⟨(agC _ rfl rfl rfl), ⟨(agC _ rfl rfl rfl), trivial⟩⟩⟩ (resC (f := B) inferInstance resN) rfl) rfl rfl h.2.1 rfl) ?_
    refine dG [(27, _), (22, _)] [([(28, some (B true))], [(28, 0)])] ⟨rfl, rfl, trivial⟩ (fun E h => IxOk.guardE 13 false 22 (okB_eq hc2 (x_not h.1 rfl)) rfl rfl h.2.1 rfl) ?_
    refine d_pick [(22, _), (28, _)] ?_
    refine d_mv [(29, _)] ?_
    refine dsk2 ?_
    refine dsk2 ?_
    refine dsk2 ?_
    refine dsk2 ?_
    refine dsk2 ?_
    refine dsk2 ?_
    refine dsk2 ?_
    refine dsk2 ?_
    refine dsk2 ?_
    refine dsk2 ?_
    refine dsk2 ?_
    refine d_pick [(30, _)] ?_
    refine dN ([] :: [0] :: [0, 1] :: [0, 1, 2] :: [0, 1, 2, 3] :: [0, 1, 2, 3, 4] :: [0, 1, 2, 3, 4, 5] :: [0, 1, 2, 3, 4, 5, 6] :: [0, 1, 2, 3, 4, 5, 6, 7] :: [0, 1, 2, 3, 4, 5, 6, 7, 8] :: [0, 1, 2, 3, 4, 5, 6, 7, 8, 9] :: [0, 1, 2, 3, 4, 5, 6, 7, 8, 9, 10] :: [0, 1, 2, 3, 4, 5, 6, 7, 8, 9, 10, 11] :: [0, 1, 2, 3, 4, 5, 6, 7, 8, 9, 10, 11, 12] :: [0, 1, 2, 3, 4, 5, 6, 7, 8, 9, 10, 11, 12, 13] :: [0, 1, 2, 3, 4, 5, 6, 7, 8, 9, 10, 11, 12, 13, 14] :: [0, 1, 2, 3, 4, 5, 6, 7, 8, 9, 10, 11, 12, 13, 14, 15] :: [0, 1, 2, 3, 4, 5, 6, 7, 8, 9, 10, 11, 12, 13, 14, 15, 16] :: [0, 1, 2, 3, 4, 5, 6, 7, 8, 9, 10, 11, 12, 13, 14, 15, 16, 17] :: [0, 1, 2, 3, 4, 5, 6, 7, 8, 9, 10, 11, 12, 13, 14, 15, 16, 17, 18] :: [0, 1, 2, 3, 4, 5, 6, 7, 8, 9, 10, 11, 12, 13, 14, 15, 16, 17, 18, 19] :: [0, 1, 2, 3, 4, 5, 6, 7, 8, 9, 10, 11, 12, 13, 14, 15, 16, 17, 18, 19, 20] :: [0, 1, 2, 3, 4, 5, 6, 7, 8, 9, 10, 11, 12, 13, 14, 15, 16, 17, 18, 19, 20, 21] :: [0, 1, 2, 3, 4, 5, 6, 7, 8, 9, 10, 11, 12, 13, 14, 15, 16, 17, 18, 19, 20, 21, 22] :: [0, 1, 2, 3, 4, 5, 6, 7, 8, 9, 10, 11, 12, 13, 14, 15, 16, 17, 18, 19, 20, 21, 22, 23] :: [0, 1, 2, 3, 4, 5, 6, 7, 8, 9, 10, 11, 12, 13, 14, 15, 16, 17, 18, 19, 20, 21, 22, 23, 24] :: [0, 1, 2, 3, 4, 5, 6, 7, 8, 9, 10, 11, 12, 13, 14, 15, 16, 17, 18, 19, 20, 21, 22, 23, 24, 25] :: [0, 1, 2, 3, 4, 5, 6, 7, 8, 9, 10, 11, 12, 13, 14, 15, 16, 17, 18, 19, 20, 21] :: [0, 1, 2, 3, 4, 5, 6, 7, 8, 9, 10, 11, 12, 13, 14, 15, 16, 17, 18, 19, 20, 21, 27] :: [0, 1, 2, 3, 4, 5, 6, 7, 8, 9, 10, 11, 12, 13, 14, 15, 16, 17, 18, 19, 20, 21, 27, 28] :: [0, 1, 2, 3, 4, 5, 6, 7, 8, 9, 10, 11, 12, 13, 14, 15, 16, 17, 18, 19, 20, 21, 27, 28, 29] :: [0, 1, 2, 3, 4, 5, 6, 7, 8, 9, 10, 11, 12, 13, 14, 15, 16, 17, 18, 19, 20, 21, 27, 28, 29, 30] :: [0, 1, 2, 3, 4, 5, 6, 7, 8, 9, 10, 11, 12, 13, 14, 15, 16, 17, 18, 19, 20, 21, 22, 23, 24, 25, 26, 27, 28, 29, 30, 31] :: [0, 1, 2, 3, 4, 5, 6, 7, 8, 9, 10, 11, 12, 13, 14, 15, 16, 17, 18, 19, 20, 21, 22, 23, 24, 25, 26, 27, 28, 29, 30, 31, 32] :: []) mixedP ?_
    refine nA ?_
    refine CW.condT rfl ?_
    refine CW.seq ?_
    refine CW.to [] trivial ?_
    refine CW.region ?_
    refine a_as ?_
    refine rN ?_
    refine CW.ret ?_
    refine rA ?_
    obtain rfl := sI h
    exact rT
   ·have h := cF hc2 h
    refine CW.dk ?_
    refine d_mv [(0, _)] ?_
    refine d_nilc [(9, _)] ?_
    refine d_ldr [(10, _)] ?_
    refine dC [(11, _)] Try.call48 (t_impl_IsConsistent _ _ hr1) ?_
    refine dG [(12, _)] [([(13, some (B false))], [(13, 0)])] ⟨rfl, trivial⟩ (fun E h => IxOk.opE (okB_eq hc0 (x_not h.1 rfl)) rfl) ?_
    refine d_mv [(13, _)] ?_
    refine e_mv [(1, _), (14, _)] ?_
    refine e_nilc [(15, _), (14, _)] ?_
    refine e_far [(16, _), (14, _)] ?_
    refine e_ldr [(17, _), (14, _)] ?_
    refine dG [(18, _), (14, _)] [([(19, some (B r2))], [(19, 0)])] ⟨rfl, rfl, trivial⟩ (fun E h => IxOk.guardE 5 false 14 (x_call (xs := [.tmp 18]) Try.call93 (t_impl_IsGroupPrime _ _ hr2) ⟨(agC _ h.1 rfl rfl), trivial⟩ (resC (f := B) inferInstance resN) rfl) rfl rfl h.2.1 rfl) ?_
    refine dG [(19, _), (14, _)] [([(20, some (B false))], [(20, 0)])] ⟨rfl, rfl, trivial⟩ (fun E h => IxOk.guardE 5 false 14 (okB_eq hc1 (x_not h.1 rfl)) rfl rfl h.2.1 rfl) ?_
    refine d_pick [(14, _), (20, _)] ?_
    refine d_mv [(21, _)] ?_
    refine e_mv [(1, _), (22, _)] ?_
    refine e_nilc [(23, _), (22, _)] ?_
    refine e_far [(24, _), (22, _)] ?_
    refine e_ldr [(25, _), (22, _)] ?_
    refine dG [(26, _), (22, _)] [([(27, some (B r3))], [(27, 0)])] ⟨rfl, rfl, trivial⟩ (fun E h => IxOk.guardE 13 false 22 (x_call (xs := [.tmp 26, .const _, .const _]) Try.call94 (t_impl_inside _ _ _ _ hr3) ⟨(agC _ h.1 rfl rfl), ⟨(agC _ rfl rfl rfl), ⟨(agC _ rfl rfl rfl), trivial⟩⟩⟩ (resC (f := B) inferInstance resN) rfl) rfl rfl h.2.1 rfl) ?_
    refine dG [(27, _), (22, _)] [([(28, some (B false))], [(28, 0)])] ⟨rfl, rfl, trivial⟩ (fun E h => IxOk.guardE 13 false 22 (okB_eq hc2 (x_not h.1 rfl)) rfl rfl h.2.1 rfl) ?_
    refine d_pick [(22, _), (28, _)] ?_
    refine d_mv [(29, _)] ?_
    refine e_mv [(1, _), (30, _)] ?_
    refine e_nilc [(31, _), (30, _)] ?_
    refine e_far [(32, _), (30, _)] ?_
    refine e_ldr [(33, _), (30, _)] ?_
    refine e_lenr [(34, _), (30, _)] ?_
    refine e_mv [(0, _), (30, _)] ?_
    refine e_nilc [(36, _), (30, _)] ?_
    refine e_far [(37, _), (30, _)] ?_
    refine e_ldr [(38, _), (30, _)] ?_
    refine e_lenr [(39, _), (30, _)] ?_
    refine e_neq [(35, _), (40, _), (30, _)] ?_
    refine d_pick [(30, _), (41, _)] ?_
    refine dN ([] :: [0] :: [0, 1] :: [0, 1, 2] :: [0, 1, 2, 3] :: [0, 1, 2, 3, 4] :: [0, 1, 2, 3, 4, 5] :: [0, 1, 2, 3, 4, 5, 6] :: [0, 1, 2, 3, 4, 5, 6, 7] :: [0, 1, 2, 3, 4, 5, 6, 7, 8] :: [0, 1, 2, 3, 4, 5, 6, 7, 8, 9] :: [0, 1, 2, 3, 4, 5, 6, 7, 8, 9, 10] :: [0, 1, 2, 3, 4, 5, 6, 7, 8, 9, 10, 11] :: [0, 1, 2, 3, 4, 5, 6, 7, 8, 9, 10, 11, 12] :: [0, 1, 2, 3, 4, 5, 6, 7, 8, 9, 10, 11, 12, 13] :: [0, 1, 2, 3, 4, 5, 6, 7, 8, 9, 10, 11, 12, 13, 14] :: [0, 1, 2, 3, 4, 5, 6, 7, 8, 9, 10, 11, 12, 13, 14, 15] :: [0, 1, 2, 3, 4, 5, 6, 7, 8, 9, 10, 11, 12, 13, 14, 15, 16] :: [0, 1, 2, 3, 4, 5, 6, 7, 8, 9, 10, 11, 12, 13, 14, 15, 16, 17] :: [0, 1, 2, 3, 4, 5, 6, 7, 8, 9, 10, 11, 12, 13, 14, 15, 16, 17, 18] :: [0, 1, 2, 3, 4, 5, 6, 7, 8, 9, 10, 11, 12, 13, 14, 15, 16, 17, 18, 19] :: [0, 1, 2, 3, 4, 5, 6, 7, 8, 9, 10, 11, 12, 13, 14, 15, 16, 17, 18, 19, 20] :: [0, 1, 2, 3, 4, 5, 6, 7, 8, 9, 10, 11, 12, 13, 14, 15, 16, 17, 18, 19, 20, 21] :: [0, 1, 2, 3, 4, 5, 6, 7, 8, 9, 10, 11, 12, 13, 14, 15, 16, 17, 18, 19, 20, 21, 22] :: [0, 1, 2, 3, 4, 5, 6, 7, 8, 9, 10, 11, 12, 13, 14, 15, 16, 17, 18, 19, 20, 21, 22, 23] :: [0, 1, 2, 3, 4, 5, 6, 7, 8, 9, 10, 11, 12, 13, 14, 15, 16, 17, 18, 19, 20, 21, 22, 23, 24] :: [0, 1, 2, 3, 4, 5, 6, 7, 8, 9, 10, 11, 12, 13, 14, 15, 16, 17, 18, 19, 20, 21, 22, 23, 24, 25] :: [0, 1, 2, 3, 4, 5, 6, 7, 8, 9, 10, 11, 12, 13, 14, 15, 16, 17, 18, 19, 20, 21] :: [0, 1, 2, 3, 4, 5, 6, 7, 8, 9, 10, 11, 12, 13, 14, 15, 16, 17, 18, 19, 20, 21, 27] :: [0, 1, 2, 3, 4, 5, 6, 7, 8, 9, 10, 11, 12, 13, 14, 15, 16, 17, 18, 19, 20, 21, 27, 28] :: [0, 1, 2, 3, 4, 5, 6, 7, 8, 9, 10, 11, 12, 13, 14, 15, 16, 17, 18, 19, 20, 21, 27, 28, 29] :: [0, 1, 2, 3, 4, 5, 6, 7, 8, 9, 10, 11, 12, 13, 14, 15, 16, 17, 18, 19, 20, 21, 27, 28, 29, 30] :: [0, 1, 2, 3, 4, 5, 6, 7, 8, 9, 10, 11, 12, 13, 14, 15, 16, 17, 18, 19, 20, 21, 22, 23, 24, 25, 26, 27, 28, 29, 30, 31] :: [0, 1, 2, 3, 4, 5, 6, 7, 8, 9, 10, 11, 12, 13, 14, 15, 16, 17, 18, 19, 20, 21, 22, 23, 24, 25, 26, 27, 28, 29, 30, 31, 32] :: []) mixedP ?_
    refine nA ?_
    refine cn h (fun hc h => ?_) (fun hc h => ?_)
    ·refine CW.seq ?_
     refine CW.to [] trivial ?_
     refine CW.region ?_
     refine a_as ?_
     refine rN ?_
     refine CW.ret ?_
     refine rA ?_
     obtain rfl := sI h
     exact rT
    ·refine CW.skip ?_
     refine nA ?_
     refine CW.seq ?_
     refine CW.seq ?_
     refine CW.to [(0, T.ro ((Pt eSPresentation) x0)), (1, T.ro ((Pt eSModule) x1))] ⟨rfl, rfl, trivial⟩ ?_
     refine CW.region ?_
     refine a_mv ?_
     refine a_nilc ?_
     refine a_far ?_
     refine a_ldr ?_
     refine a_lenr ?_
     refine a_mv ?_
     refine rN ?_
     refine CW.block ?_
     obtain ⟨r8, hr8, h⟩ := bd h
     refine CW.lp (s := 0) (l1_impl_isModule x1) (fun s1 : Int => envL [(0, T.ro ((Pt eSPresentation) x0)), (1, T.ro ((Pt eSModule) x1)), (46, T.ro (lC x1.Actions)), (47, I (x1.Actions.length : Int)), (48, I s1)]) (fun (x : Unit ⊕ Bool) e E => match x with | (.inl r8) => e = .exit 0 ∧ Ghost ⟨St, W, w0, Try.f58.ntmps⟩ E (envL [(0, T.ro ((Pt eSPresentation) x0)), (1, T.ro ((Pt eSModule) x1))]) | (.inr r8) => e = .ret ∧ RetG ⟨St, W, w0, Try.f58.ntmps⟩ Try.prog Try.f58.results [T.ro ((Pt eSPresentation) x0), T.ro ((Pt eSModule) x1)] [B r8] [] .ret E) (.has ⟨rfl, rfl, rfl, rfl, rfl, trivial⟩) (fun s1 x h => ?_) hr8 (fun e E hq => ?_)
     ·refine sR ?_
      refine a_lss ?_
      refine rN ?_
      refine CW.seq ?_
      refine cn h (fun hc h => ?_) (fun hc h => ?_)
      ·refine CW.skip ?_
       refine nA ?_
       refine CW.seq ?_
       refine CW.block ?_
       refine sR ?_
       refine a_mv ?_
       obtain ⟨v4, hv4, h⟩ := bd h
       refine a_ixr ?_
       refine a_ldr ?_
       refine a_as ?_
       refine a_as ?_
       refine rN ?_
       refine sR ?_
       refine a_mv ?_
       refine a_lenr ?_
       refine a_mv ?_
       refine a_nilc ?_
       refine a_far ?_
       refine a_ldr ?_
       refine a_neq ?_
       refine a_mv ?_
       refine RW.cases 60 _ rfl (fun hc => ?_) (fun hc => ?_)
       ·have h := cT hc h
        refine sk2 ?_
        refine sk2 ?_
        refine sk2 ?_
        refine sk2 ?_
        refine sk2 ?_
        refine a_pick ?_
        refine rN ?_
        refine CW.condT rfl ?_
        refine sR ?_
        refine a_as ?_
        refine rN ?_
        refine CW.ret ?_
        refine rB ?_
        refine rA ?_
        exact eX h
       ·have h := cF hc h
        refine g_mv ?_
        refine g_mv ?_
        obtain ⟨r5, hr5, h⟩ := bd h
        refine RW.cons (IxOk.guard 7 false 60 (x_callF (xs := [.tmp 61, .tmp 62]) Try.call60 (t_impl_actionAt _ _ _ hr5) (afC rfl rfl (afC rfl rfl afN)) rfl ⟨(cleanA ⟨(Enc.clean (f := I) _), (Enc.clean (f := I) _), trivial, trivial⟩), trivial⟩ rfl rfl)) ?_
        obtain ⟨r6, hr6, h⟩ := bd h
        refine RW.cons (IxOk.guard 7 false 60 (x_call (xs := [.tmp 63]) Try.call95 (t_impl_IsMatrix _ _ hr6) ⟨(agC _ rfl rfl rfl), trivial⟩ (resC (f := B) inferInstance resN) rfl)) ?_
        refine g_not ?_
        refine a_pick ?_
        refine rN ?_
        refine cn h (fun hc h => ?_) (fun hc h => ?_)
        ·refine sR ?_
         refine a_as ?_
         refine rN ?_
         refine CW.ret ?_
         refine rB ?_
         refine rA ?_
         exact eX h
        ·refine CW.skip ?_
         refine nB ?_
         refine nA ?_
         refine CW.region ?_
         obtain ⟨v7, hv7, h⟩ := bd h
         refine a_add ?_
         refine a_mv ?_
         refine RW.nil ?_
         exact eN h
      ·refine CW.exit ?_
       refine xA ?_
       exact eX h
     ·rcases r8 with r8 | r8
      ·obtain ⟨rfl, hg⟩ := hq
       refine xB ?_
       refine nA ?_
       refine CW.ghost hg ?_
       refine CW.seq ?_
       refine sR ?_
       refine a_mv ?_
       obtain ⟨r9, hr9, h⟩ := bd h
       refine cA Try.call96 (t_impl_relationSides _ _ hr9) ?_
       refine RW.ghost (Ghost.frz 69 (k := 2) (f := (A2 lV)) (g := (A2 lV)) r9 rfl inferInstance) ?_
       refine a_lenr ?_
       refine a_mv ?_
       refine rN ?_
       refine CW.block ?_
       obtain ⟨r15, hr15, h⟩ := bd h
       refine CW.lp (s := 0) (l2_impl_isModule x1 r9) (fun s3 : Int => envL [(1, T.ro ((Pt eSModule) x1)), (69, T.ro ((L 2 (A2 lV)) r9)), (70, I (r9.length : Int)), (71, I s3)]) (fun (x : Unit ⊕ Bool) e E => match x with | (.inl r15) => e = .exit 2 ∧ Ghost ⟨St, W, w0, Try.f58.ntmps⟩ E (envL []) | (.inr r15) => e = .ret ∧ RetG ⟨St, W, w0, Try.f58.ntmps⟩ Try.prog Try.f58.results [T.ro ((Pt eSPresentation) x0), T.ro ((Pt eSModule) x1)] [B r15] [] .ret E) (.has ⟨rfl, rfl, rfl, rfl, trivial⟩) (fun s3 x h => ?_) hr15 (fun e E hq => ?_)
       ·refine sR ?_
        refine a_lss ?_
        refine rN ?_
        refine CW.seq ?_
        refine cn h (fun hc h => ?_) (fun hc h => ?_)
        ·refine CW.skip ?_
         refine nA ?_
         refine CW.seq ?_
         refine CW.block ?_
         refine sR ?_
         obtain ⟨v10, hv10, h⟩ := bd h
         refine a_ixr ?_
         refine a_ldr ?_
         refine a_alloc ?_
         refine oP (x_stp inf_121 rfl (locB rfl rfl) rfl rfl rfl rfl (clean_of (cleanA ⟨trivial, trivial, trivial⟩)) rfl) ?_
         refine rN ?_
         refine CW.seq ?_
         obtain ⟨r11, hr11, h⟩ := bd h
         obtain ⟨r12, hr12, h⟩ := bd h
         obtain ⟨r13, hr13, h⟩ := bd h
         refine CW.dk ?_
         refine d_mv [(1, _)] ?_
         refine dG [(8, _)] [([(76, some (T.addr 8 [0, 0]))], [(76, 0)])] ⟨rfl, trivial⟩ (fun E h => IxOk.opE (x_ixA 0 arr_121 (locB h.1 rfl) rfl rfl rfl) rfl) ?_
         refine d_ld [(76, _), (8, _)] ?_
         refine dC [(75, _), (77, _)] Try.call98 (t_impl_actionOf _ _ _ hr11) ?_
         refine dG [(78, _)] [([(79, some (T.same 78 [2]))], [(79, 0)])] ⟨rfl, trivial⟩ (fun E h => IxOk.opE (x_fld fld_76_2 (fldv_76_2 rfl rfl) h.1 rfl rfl rfl) rfl) ?_
         refine d_mv [(1, _)] ?_
         refine dG [(8, _)] [([(81, some (T.addr 8 [1, 0]))], [(81, 0)])] ⟨rfl, trivial⟩ (fun E h => IxOk.opE (x_ixA 1 arr_121 (locB h.1 rfl) rfl rfl rfl) rfl) ?_
         refine d_ld [(81, _), (8, _)] ?_
         refine dC [(80, _), (82, _)] Try.call98 (t_impl_actionOf _ _ _ hr12) ?_
         refine dG [(83, _)] [([(84, some (T.same 83 [2]))], [(84, 0)])] ⟨rfl, trivial⟩ (fun E h => IxOk.opE (x_fld fld_76_2 (fldv_76_2 rfl rfl) h.1 rfl rfl rfl) rfl) ?_
         refine dC [(79, _), (78, _), (84, _), (83, _)] Try.call97 (t_impl_sameRows _ _ _ hr13) ?_
         refine d_not [(85, _)] ?_
         refine dNA mixedP ?_
         refine nA ?_
         refine cn h (fun hc h => ?_) (fun hc h => ?_)
         ·refine sR ?_
          refine a_as ?_
          refine rN ?_
          refine CW.ret ?_
          refine rB ?_
          refine rA ?_
          exact eX h
         ·refine CW.skip ?_
          refine nB ?_
          refine nA ?_
          refine CW.region ?_
          obtain ⟨v14, hv14, h⟩ := bd h
          refine a_add ?_
          refine a_mv ?_
          refine RW.nil ?_
          exact eN h
        ·refine CW.exit ?_
         refine xA ?_
         exact eX h
       ·rcases r15 with r15 | r15
        ·obtain ⟨rfl, hg⟩ := hq
         refine xB ?_
         refine nA ?_
         refine CW.ghost hg ?_
         refine sR ?_
         refine a_as ?_
         refine rN ?_
         refine CW.ret ?_
         obtain rfl := sI h
         exact rT
        ·obtain ⟨rfl, hq⟩ := hq
         refine rB ?_
         refine rA ?_
         obtain rfl := sI h
         exact hq
      ·obtain ⟨rfl, hq⟩ := hq
       refine rB ?_
       refine rA ?_
       obtain rfl := sI h
       exact hq
theorem t_slices_Grow_int64_int64 (x1 : Int) (r : (List Int)) (h : f_slices_Grow_int64_int64 x1 = some r) : FnC Try.prog 110 [T.lit (.slice none 0 0), I x1] [lV r] [] := by
 refine fB Try.func110 (fun St W w0 v => ?_)
 refine sR ?_
 refine oP (x_nil 1 rfl) ?_
 refine rN ?_
 refine CW.seq ?_
 refine sR ?_
 refine a_mv ?_
 refine a_lss ?_
 refine rN ?_
 refine cn h (fun hc h => ?_) (fun hc h => ?_)
 ·refine CW.region ?_
  cases h
 ·refine CW.skip ?_
  refine nA ?_
  refine CW.seq ?_
  refine sR ?_
  refine a_mv ?_
  refine a_mv ?_
  refine oP (x_capnil Try.underlying22 rfl rfl) ?_
  refine a_mv ?_
  refine oP (x_lennil Try.underlying22 rfl rfl) ?_
  obtain ⟨v1, hv1, h⟩ := bd h
  refine a_sub ?_
  obtain ⟨v2, hv2, h⟩ := bd h
  refine a_sub ?_
  refine a_as ?_
  refine rN ?_
  refine sR ?_
  refine a_mv ?_
  refine a_gtr ?_
  refine rN ?_
  refine cn h (fun hc h => ?_) (fun hc h => ?_)
  ·refine CW.region ?_
   refine a_mv ?_
   refine a_mv ?_
   refine oP (x_capnil Try.underlying22 rfl rfl) ?_
   refine oP (x_slnil elt_22 rfl rfl rfl) ?_
   refine a_mv ?_
   obtain ⟨v3, hv3, h⟩ := bd h
   refine oP (x_appz (f := I) (z := 0) elt_22 Try.underlying3 (rfl) hv3 rfl rfl rfl) ?_
   refine a_mv ?_
   refine oP (x_lennil Try.underlying22 rfl rfl) ?_
   obtain ⟨v4, hv4, h⟩ := bd h
   refine oP (x_cut (f := I) elt_22 hv4 rfl rfl (.inl rfl) rfl) ?_
   refine a_as ?_
   refine RW.ghost (Ghost.tr 0 25 _ rfl rfl (clean_of (cleanL (Enc.clean (f := I)))) rfl) ?_
   refine rN ?_
   refine sR ?_
   refine a_mv ?_
   refine a_as ?_
   refine RW.ghost (Ghost.tr 4 0 _ rfl rfl (clean_of (cleanL (Enc.clean (f := I)))) rfl) ?_
   refine rN ?_
   refine CW.ret ?_
   obtain rfl := sI h
   exact rT
  ·refine CW.skip ?_
   refine nA ?_
   refine sR ?_
   refine a_mv ?_
   refine a_as ?_
   refine rN ?_
   refine CW.ghost (Ghost.nil 4 1 rfl) ?_
   refine CW.ret ?_
   obtain rfl := sI h
   exact rT
theorem t_slices_Concat_int64_int64 (x0 : List (List Int)) (r : (List Int)) (h : f_slices_Concat_int64_int64 x0 = some r) : FnC Try.prog 73 [T.ro (lM x0)] [lV r] [] := by
 refine fB Try.func73 (fun St W w0 v => ?_)
 refine sR ?_
 refine oP (x_nil 1 rfl) ?_
 refine rN ?_
 refine sR ?_
 refine a_as ?_
 refine rN ?_
 refine CW.seq ?_
 refine sR ?_
 refine a_mv ?_
 refine a_lenr ?_
 refine a_mv ?_
 refine rN ?_
 refine CW.block ?_
 obtain ⟨r4, hr4, h⟩ := bd h
 refine CW.lp (s := (0, 0)) (l1_slices_Concat_int64_int64 x0) (fun s1 : Int × Int => envL [(0, T.ro (lM x0)), (3, I s1.1), (9, T.ro (lM x0)), (10, I (x0.length : Int)), (11, I s1.2)]) (fun (r4 : Int) e E => e = .exit 0 ∧ Ghost ⟨St, W, w0, Try.f73.ntmps⟩ E (envL [(0, T.ro (lM x0)), (3, I r4)])) (.has ⟨rfl, rfl, rfl, rfl, rfl, trivial⟩) (fun s1 x h => ?_) hr4 (fun e E hq => ?_)
 ·refine sR ?_
  refine a_lss ?_
  refine rN ?_
  refine CW.seq ?_
  refine cn h (fun hc h => ?_) (fun hc h => ?_)
  ·refine CW.skip ?_
   refine nA ?_
   refine CW.seq ?_
   refine CW.block ?_
   refine sR ?_
   obtain ⟨v1, hv1, h⟩ := bd h
   refine a_ixr ?_
   refine a_ldr ?_
   refine a_as ?_
   refine rN ?_
   refine sR ?_
   refine a_mv ?_
   refine a_mv ?_
   refine a_lenr ?_
   obtain ⟨v2, hv2, h⟩ := bd h
   refine a_add ?_
   refine a_as ?_
   refine rN ?_
   refine sR ?_
   refine a_mv ?_
   refine a_lss ?_
   refine rN ?_
   refine cn h (fun hc h => ?_) (fun hc h => ?_)
   ·refine CW.region ?_
    cases h
   ·refine CW.skip ?_
    refine nB ?_
    refine nA ?_
    refine CW.region ?_
    obtain ⟨v3, hv3, h⟩ := bd h
    refine a_add ?_
    refine a_mv ?_
    refine RW.nil ?_
    exact eN h
  ·refine CW.exit ?_
   refine xA ?_
   exact eX h
 ·obtain ⟨rfl, hg⟩ := hq
  refine xB ?_
  refine nA ?_
  refine CW.ghost hg ?_
  refine sR ?_
  refine a_mv ?_
  obtain ⟨r5, hr5, h⟩ := bd h
  refine cA Try.call110 (t_slices_Grow_int64_int64 _ _ hr5) ?_
  refine a_as ?_
  refine RW.ghost (Ghost.tr 6 24 _ rfl rfl (clean_of (cleanL (Enc.clean (f := I)))) rfl) ?_
  refine rN ?_
  refine CW.seq ?_
  refine sR ?_
  refine a_mv ?_
  refine a_lenr ?_
  refine a_mv ?_
  refine rN ?_
  refine CW.block ?_
  obtain ⟨r9, hr9, h⟩ := bd h
  refine CW.lp (s := (r5, 0)) (l2_slices_Concat_int64_int64 x0) (fun s3 : (List Int) × Int => envL [(6, L 1 I s3.1), (25, T.ro (lM x0)), (26, I (x0.length : Int)), (27, I s3.2)]) (fun (r9 : (List Int)) e E => e = .exit 2 ∧ Ghost ⟨St, W, w0, Try.f73.ntmps⟩ E (envL [(6, L 1 I r9)])) (.has ⟨rfl, rfl, rfl, rfl, trivial⟩) (fun s3 x h => ?_) hr9 (fun e E hq => ?_)
  ·refine sR ?_
   refine a_lss ?_
   refine rN ?_
   refine CW.seq ?_
   refine cn h (fun hc h => ?_) (fun hc h => ?_)
   ·refine CW.skip ?_
    refine nA ?_
    refine CW.seq ?_
    refine CW.block ?_
    refine sR ?_
    obtain ⟨v6, hv6, h⟩ := bd h
    refine a_ixr ?_
    refine a_ldr ?_
    refine a_as ?_
    refine rN ?_
    refine CW.region ?_
    refine a_mv ?_
    refine a_mv ?_
    refine RW.ghost (Ghost.tr 31 6 _ rfl rfl (clean_of (cleanL (Enc.clean (f := I)))) rfl) ?_
    obtain ⟨v7, hv7, h⟩ := bd h
    refine oP (x_appr (f := I) (g := I) elt_22 (fun _ => rfl) (fun _ => rfl) inferInstance hv7 rfl (locB rfl rfl) rfl) ?_
    refine a_as ?_
    refine RW.ghost (Ghost.tr 6 33 _ rfl rfl (clean_of (cleanL (Enc.clean (f := I)))) rfl) ?_
    refine RW.nil ?_
    refine nB ?_
    refine nA ?_
    refine CW.region ?_
    obtain ⟨v8, hv8, h⟩ := bd h
    refine a_add ?_
    refine a_mv ?_
    refine RW.nil ?_
    exact eN h
   ·refine CW.exit ?_
    refine xA ?_
    exact eX h
  ·obtain ⟨rfl, hg⟩ := hq
   refine xB ?_
   refine nA ?_
   refine CW.ghost hg ?_
   refine sR ?_
   refine a_mv ?_
   refine a_as ?_
   refine RW.ghost (Ghost.tr 2 6 _ rfl rfl (clean_of (cleanL (Enc.clean (f := I)))) rfl) ?_
   refine rN ?_
   refine CW.ret ?_
   obtain rfl := sI h
   exact rT
theorem t_impl_padded (x0 : List Int) (x1 : Int) (x2 : Int) (r : (List Int)) (h : f_impl_padded x0 x1 x2 = some r) : FnC Try.prog 37 [T.ro (lV x0), I x1, I x2] [lV r] [] := by
 refine fB Try.func37 (fun St W w0 v => ?_)
 refine sR ?_
 refine oP (x_nil 1 rfl) ?_
 refine rN ?_
 refine CW.seq ?_
 obtain ⟨m1, hm1, h⟩ := bd h
 obtain ⟨m2, hm2, h⟩ := bd h
 obtain ⟨r3, hr3, h⟩ := bd h
 refine CW.dk ?_
 refine d_mv [(1, _)] ?_
 refine dG [(7, _)] [([(8, some (L 1 I (List.replicate m1 (0 : Int))))], [(8, 0)])] ⟨rfl, trivial⟩ (fun E h => IxOk.opE (x_makeL (f := I) (z := 0) elt_22 (rfl) hm1 h.1 h.1 rfl) rfl) ?_
 refine d_mv [(0, _)] ?_
 refine d_mv [(2, _)] ?_
 refine dG [(10, _)] [([(11, some (L 1 I (List.replicate m2 (0 : Int))))], [(11, 0)])] ⟨rfl, trivial⟩ (fun E h => IxOk.opE (x_makeL (f := I) (z := 0) elt_22 (rfl) hm2 h.1 h.1 rfl) rfl) ?_
 refine dG [(8, L 1 I (List.replicate m1 (0 : Int))), (11, L 1 I (List.replicate m2 (0 : Int))), (9, T.ro (lV x0))] [([(8, some (T.ro (lV (List.replicate m1 (0 : Int)))))], [(8, 1)]), ([(11, some (T.ro (lV (List.replicate m2 (0 : Int)))))], [(11, 1)]), ([(12, some (L 1 (Ro lV) [List.replicate m1 (0 : Int), x0, List.replicate m2 (0 : Int)]))], [(12, 0)])] ⟨rfl, rfl, rfl, trivial⟩ (fun E h => IxOk.gh (Ghost.frz 8 (k := 1) (f := I) (g := I) (List.replicate m1 (0 : Int)) h.1 inferInstance) <| IxOk.gh (Ghost.frz 11 (k := 1) (f := I) (g := I) (List.replicate m2 (0 : Int)) (keepE h.2.1) inferInstance) <| IxOk.opE (x_bs elt_23 [.tmp 8, .tmp 9, .tmp 11] [.slot 8 (T.ro (lV (List.replicate m1 (0 : Int)))), .slot 9 (T.ro (lV x0)), .slot 11 (T.ro (lV (List.replicate m2 (0 : Int))))] [List.replicate m1 (0 : Int), x0, List.replicate m2 (0 : Int)] (Ro lV) ⟨.slot _ _, .slot _ _, .slot _ _, trivial⟩ (pkS (keepE rfl) (clean_of trivial) rfl (pkS (keepE (keepE h.2.2.1)) (clean_of trivial) rfl (pkS rfl (clean_of trivial) rfl pkN))) rfl rfl) rfl) ?_
 refine dC [(12, _)] Try.call73 (t_slices_Concat_int64_int64 _ _ hr3) ?_
 refine d_as [(13, _)] ?_
 refine dNA mixedP ?_
 refine nA ?_
 refine CW.ghost (Ghost.tr 6 13 _ rfl rfl (clean_of (cleanL (Enc.clean (f := I)))) rfl) ?_
 refine CW.ret ?_
 obtain rfl := sI h
 exact rT
theorem t_laws_eqInt64S (x0 : List Int) (x1 : List Int) (r : Bool) (h : f_laws_eqInt64S x0 x1 = some r) : FnC Try.prog 39 [T.ro (lV x0), T.ro (lV x1)] [B r] [] := by
 refine fB Try.func39 (fun St W w0 v => ?_)
 refine sR ?_
 refine a_as ?_
 refine rN ?_
 refine CW.seq ?_
 refine sR ?_
 refine a_mv ?_
 refine a_lenr ?_
 refine a_mv ?_
 refine a_lenr ?_
 refine a_neq ?_
 refine rN ?_
 refine cn h (fun hc h => ?_) (fun hc h => ?_)
 ·refine sR ?_
  refine a_as ?_
  refine rN ?_
  refine CW.ret ?_
  refine rA ?_
  obtain rfl := sI h
  exact rT
 ·refine CW.skip ?_
  refine nA ?_
  refine CW.seq ?_
  refine sR ?_
  refine a_as ?_
  refine rN ?_
  refine CW.block ?_
  obtain ⟨r4, hr4, h⟩ := bd h
  refine CW.lp (s := 0) (l1_laws_eqInt64S x0 x1) (fun s1 : Int => envL [(0, T.ro (lV x0)), (1, T.ro (lV x1)), (5, I s1)]) (fun (x : Unit ⊕ Bool) e E => match x with | (.inl r4) => e = .exit 0 ∧ Ghost ⟨St, W, w0, Try.f39.ntmps⟩ E (envL []) | (.inr r4) => e = .ret ∧ RetG ⟨St, W, w0, Try.f39.ntmps⟩ Try.prog Try.f39.results [T.ro (lV x0), T.ro (lV x1)] [B r4] [] .ret E) (.has ⟨rfl, rfl, rfl, trivial⟩) (fun s1 x h => ?_) hr4 (fun e E hq => ?_)
  ·refine CW.seq ?_
   refine sR ?_
   refine a_mv ?_
   refine a_mv ?_
   refine a_lenr ?_
   refine a_lss ?_
   refine rN ?_
   refine cn h (fun hc h => ?_) (fun hc h => ?_)
   ·refine CW.skip ?_
    refine nA ?_
    refine CW.seq ?_
    refine CW.block ?_
    refine CW.seq ?_
    obtain ⟨v1, hv1, h⟩ := bd h
    obtain ⟨v2, hv2, h⟩ := bd h
    refine CW.dk ?_
    refine d_mv [(0, _)] ?_
    refine d_mv [(5, _)] ?_
    refine d_ixr [(17, _), (18, _)] ?_
    refine d_ldr [(19, _)] ?_
    refine d_mv [(1, _)] ?_
    refine d_mv [(5, _)] ?_
    refine d_ixr [(21, _), (22, _)] ?_
    refine d_ldr [(23, _)] ?_
    refine d_neq [(20, _), (24, _)] ?_
    refine dNA mixedP ?_
    refine nA ?_
    refine cn h (fun hc h => ?_) (fun hc h => ?_)
    ·refine sR ?_
     refine a_as ?_
     refine rN ?_
     refine CW.ret ?_
     refine rB ?_
     refine rA ?_
     exact eX h
    ·refine CW.skip ?_
     refine nB ?_
     refine nA ?_
     refine CW.region ?_
     refine a_mv ?_
     obtain ⟨v3, hv3, h⟩ := bd h
     refine a_add ?_
     refine a_as ?_
     refine RW.nil ?_
     exact eN h
   ·refine CW.exit ?_
    refine xA ?_
    exact eX h
  ·rcases r4 with r4 | r4
   ·obtain ⟨rfl, hg⟩ := hq
    refine xB ?_
    refine nA ?_
    refine CW.ghost hg ?_
    refine sR ?_
    refine a_as ?_
    refine rN ?_
    refine CW.ret ?_
    obtain rfl := sI h
    exact rT
   ·obtain ⟨rfl, hq⟩ := hq
    refine rB ?_
    refine rA ?_
    obtain rfl := sI h
    exact hq
theorem t_laws_eqInt64SS (x0 : List (List Int)) (x1 : List (List Int)) (r : Bool) (h : f_laws_eqInt64SS x0 x1 = some r) : FnC Try.prog 40 [T.ro (lM x0), T.ro (lM x1)] [B r] [] := by
 refine fB Try.func40 (fun St W w0 v => ?_)
 refine sR ?_
 refine a_as ?_
 refine rN ?_
 refine CW.seq ?_
 refine sR ?_
 refine a_mv ?_
 refine a_lenr ?_
 refine a_mv ?_
 refine a_lenr ?_
 refine a_neq ?_
 refine rN ?_
 refine cn h (fun hc h => ?_) (fun hc h => ?_)
 ·refine sR ?_
  refine a_as ?_
  refine rN ?_
  refine CW.ret ?_
  refine rA ?_
  obtain rfl := sI h
  exact rT
 ·refine CW.skip ?_
  refine nA ?_
  refine CW.seq ?_
  refine sR ?_
  refine a_as ?_
  refine rN ?_
  refine CW.block ?_
  obtain ⟨r5, hr5, h⟩ := bd h
  refine CW.lp (s := 0) (l1_laws_eqInt64SS x0 x1) (fun s1 : Int => envL [(0, T.ro (lM x0)), (1, T.ro (lM x1)), (5, I s1)]) (fun (x : Unit ⊕ Bool) e E => match x with | (.inl r5) => e = .exit 0 ∧ Ghost ⟨St, W, w0, Try.f40.ntmps⟩ E (envL []) | (.inr r5) => e = .ret ∧ RetG ⟨St, W, w0, Try.f40.ntmps⟩ Try.prog Try.f40.results [T.ro (lM x0), T.ro (lM x1)] [B r5] [] .ret E) (.has ⟨rfl, rfl, rfl, trivial⟩) (fun s1 x h => ?_) hr5 (fun e E hq => ?_)
  ·refine CW.seq ?_
   refine sR ?_
   refine a_mv ?_
   refine a_mv ?_
   refine a_lenr ?_
   refine a_lss ?_
   refine rN ?_
   refine cn h (fun hc h => ?_) (fun hc h => ?_)
   ·refine CW.skip ?_
    refine nA ?_
    refine CW.seq ?_
    refine CW.block ?_
    refine CW.seq ?_
    obtain ⟨v1, hv1, h⟩ := bd h
    obtain ⟨v2, hv2, h⟩ := bd h
    obtain ⟨r3, hr3, h⟩ := bd h
    refine CW.dk ?_
    refine d_mv [(0, _)] ?_
    refine d_mv [(5, _)] ?_
    refine d_ixr [(17, _), (18, _)] ?_
    refine d_ldr [(19, _)] ?_
    refine d_mv [(1, _)] ?_
    refine d_mv [(5, _)] ?_
    refine d_ixr [(21, _), (22, _)] ?_
    refine d_ldr [(23, _)] ?_
    refine dC [(20, _), (24, _)] Try.call39 (t_laws_eqInt64S _ _ _ hr3) ?_
    refine d_not [(25, _)] ?_
    refine dNA mixedP ?_
    refine nA ?_
    refine cn h (fun hc h => ?_) (fun hc h => ?_)
    ·refine sR ?_
     refine a_as ?_
     refine rN ?_
     refine CW.ret ?_
     refine rB ?_
     refine rA ?_
     exact eX h
    ·refine CW.skip ?_
     refine nB ?_
     refine nA ?_
     refine CW.region ?_
     refine a_mv ?_
     obtain ⟨v4, hv4, h⟩ := bd h
     refine a_add ?_
     refine a_as ?_
     refine RW.nil ?_
     exact eN h
   ·refine CW.exit ?_
    refine xA ?_
    exact eX h
  ·rcases r5 with r5 | r5
   ·obtain ⟨rfl, hg⟩ := hq
    refine xB ?_
    refine nA ?_
    refine CW.ghost hg ?_
    refine sR ?_
    refine a_as ?_
    refine rN ?_
    refine CW.ret ?_
    obtain rfl := sI h
    exact rT
   ·obtain ⟨rfl, hq⟩ := hq
    refine rB ?_
    refine rA ?_
    obtain rfl := sI h
    exact hq
theorem t_laws_eqInt64SSS (x0 : List (List (List Int))) (x1 : List (List (List Int))) (r : Bool) (h : f_laws_eqInt64SSS x0 x1 = some r) : FnC Try.prog 38 [T.ro (lC x0), T.ro (lC x1)] [B r] [] := by
 refine fB Try.func38 (fun St W w0 v => ?_)
 refine sR ?_
 refine a_as ?_
 refine rN ?_
 refine CW.seq ?_
 refine sR ?_
 refine a_mv ?_
 refine a_lenr ?_
 refine a_mv ?_
 refine a_lenr ?_
 refine a_neq ?_
 refine rN ?_
 refine cn h (fun hc h => ?_) (fun hc h => ?_)
 ·refine sR ?_
  refine a_as ?_
  refine rN ?_
  refine CW.ret ?_
  refine rA ?_
  obtain rfl := sI h
  exact rT
 ·refine CW.skip ?_
  refine nA ?_
  refine CW.seq ?_
  refine sR ?_
  refine a_as ?_
  refine rN ?_
  refine CW.block ?_
  obtain ⟨r5, hr5, h⟩ := bd h
  refine CW.lp (s := 0) (l1_laws_eqInt64SSS x0 x1) (fun s1 : Int => envL [(0, T.ro (lC x0)), (1, T.ro (lC x1)), (5, I s1)]) (fun (x : Unit ⊕ Bool) e E => match x with | (.inl r5) => e = .exit 0 ∧ Ghost ⟨St, W, w0, Try.f38.ntmps⟩ E (envL []) | (.inr r5) => e = .ret ∧ RetG ⟨St, W, w0, Try.f38.ntmps⟩ Try.prog Try.f38.results [T.ro (lC x0), T.ro (lC x1)] [B r5] [] .ret E) (.has ⟨rfl, rfl, rfl, trivial⟩) (fun s1 x h => ?_) hr5 (fun e E hq => ?_)
  ·refine CW.seq ?_
   refine sR ?_
   refine a_mv ?_
   refine a_mv ?_
   refine a_lenr ?_
   refine a_lss ?_
   refine rN ?_
   refine cn h (fun hc h => ?_) (fun hc h => ?_)
   ·refine CW.skip ?_
    refine nA ?_
    refine CW.seq ?_
    refine CW.block ?_
    refine CW.seq ?_
    obtain ⟨v1, hv1, h⟩ := bd h
    obtain ⟨v2, hv2, h⟩ := bd h
    obtain ⟨r3, hr3, h⟩ := bd h
    refine CW.dk ?_
    refine d_mv [(0, _)] ?_
    refine d_mv [(5, _)] ?_
    refine d_ixr [(17, _), (18, _)] ?_
    refine d_ldr [(19, _)] ?_
    refine d_mv [(1, _)] ?_
    refine d_mv [(5, _)] ?_
    refine d_ixr [(21, _), (22, _)] ?_
    refine d_ldr [(23, _)] ?_
    refine dC [(20, _), (24, _)] Try.call40 (t_laws_eqInt64SS _ _ _ hr3) ?_
    refine d_not [(25, _)] ?_
    refine dNA mixedP ?_
    refine nA ?_
    refine cn h (fun hc h => ?_) (fun hc h => ?_)
    ·refine sR ?_
     refine a_as ?_
     refine rN ?_
     refine CW.ret ?_
     refine rB ?_
     refine rA ?_
     exact eX h
    ·refine CW.skip ?_
     refine nB ?_
     refine nA ?_
     refine CW.region ?_
     refine a_mv ?_
     obtain ⟨v4, hv4, h⟩ := bd h
     refine a_add ?_
     refine a_as ?_
     refine RW.nil ?_
     exact eN h
   ·refine CW.exit ?_
    refine xA ?_
    exact eX h
  ·rcases r5 with r5 | r5
   ·obtain ⟨rfl, hg⟩ := hq
    refine xB ?_
    refine nA ?_
    refine CW.ghost hg ?_
    refine sR ?_
    refine a_as ?_
    refine rN ?_
    refine CW.ret ?_
    obtain rfl := sI h
    exact rT
   ·obtain ⟨rfl, hq⟩ := hq
    refine rB ?_
    refine rA ?_
    obtain rfl := sI h
    exact hq
theorem t_laws_eqModule (x0 : SModule) (x1 : SModule) (r : Bool) (h : f_laws_eqModule x0 x1 = some r) : FnC Try.prog 14 [qModule x0, qModule x1] [B r] [] := by
 refine fB Try.func14 (fun St W w0 v => ?_)
 refine sR ?_
 refine a_box ?_
 refine a_box ?_
 refine a_as ?_
 refine rN ?_
 refine CW.seq ?_
 refine sR ?_
 refine a_fa ?_
 refine a_ld ?_
 refine a_fa ?_
 refine a_ld ?_
 refine a_neq ?_
 refine rN ?_
 refine cn h (fun hc h => ?_) (fun hc h => ?_)
 ·refine sR ?_
  refine a_as ?_
  refine rN ?_
  refine CW.ret ?_
  refine rA ?_
  obtain rfl := sI h
  exact rT
 ·refine CW.skip ?_
  refine nA ?_
  refine CW.seq ?_
  refine sR ?_
  refine a_fa ?_
  refine a_ld ?_
  refine a_fa ?_
  refine a_ld ?_
  refine a_neq ?_
  refine rN ?_
  refine cn h (fun hc h => ?_) (fun hc h => ?_)
  ·refine sR ?_
   refine a_as ?_
   refine rN ?_
   refine CW.ret ?_
   refine rA ?_
   obtain rfl := sI h
   exact rT
  ·refine CW.skip ?_
   refine nA ?_
   refine CW.seq ?_
   refine sR ?_
   refine a_fa ?_
   refine a_ld ?_
   refine a_fa ?_
   refine a_ld ?_
   obtain ⟨r1, hr1, h⟩ := bd h
   refine cA Try.call38 (t_laws_eqInt64SSS _ _ _ hr1) ?_
   refine a_not ?_
   refine rN ?_
   refine cn h (fun hc h => ?_) (fun hc h => ?_)
   ·refine sR ?_
    refine a_as ?_
    refine rN ?_
    refine CW.ret ?_
    refine rA ?_
    obtain rfl := sI h
    exact rT
   ·refine CW.skip ?_
    refine nA ?_
    refine sR ?_
    refine a_as ?_
    refine rN ?_
    refine CW.ret ?_
    obtain rfl := sI h
    exact rT
theorem t_laws_eqPresentation (x0 : SPresentation) (x1 : SPresentation) (r : Bool) (h : f_laws_eqPresentation x0 x1 = some r) : FnC Try.prog 15 [qPresentation x0, qPresentation x1] [B r] [] := by
 refine fB Try.func15 (fun St W w0 v => ?_)
 refine sR ?_
 refine a_box ?_
 refine a_box ?_
 refine a_as ?_
 refine rN ?_
 refine CW.seq ?_
 refine sR ?_
 refine a_fa ?_
 refine a_ld ?_
 refine a_fa ?_
 refine a_ld ?_
 obtain ⟨r1, hr1, h⟩ := bd h
 refine cA Try.call39 (t_laws_eqInt64S _ _ _ hr1) ?_
 refine a_not ?_
 refine rN ?_
 refine cn h (fun hc h => ?_) (fun hc h => ?_)
 ·refine sR ?_
  refine a_as ?_
  refine rN ?_
  refine CW.ret ?_
  refine rA ?_
  obtain rfl := sI h
  exact rT
 ·refine CW.skip ?_
  refine nA ?_
  refine CW.seq ?_
  refine sR ?_
  refine a_fa ?_
  refine a_ld ?_
  refine a_fa ?_
  refine a_ld ?_
  obtain ⟨r2, hr2, h⟩ := bd h
  refine cA Try.call40 (t_laws_eqInt64SS _ _ _ hr2) ?_
  refine a_not ?_
  refine rN ?_
  refine cn h (fun hc h => ?_) (fun hc h => ?_)
  ·refine sR ?_
   refine a_as ?_
   refine rN ?_
   refine CW.ret ?_
   refine rA ?_
   obtain rfl := sI h
   exact rT
  ·refine CW.skip ?_
   refine nA ?_
   refine CW.seq ?_
   refine sR ?_
   refine a_fa ?_
   refine a_ld ?_
   refine a_fa ?_
   refine a_ld ?_
   obtain ⟨r3, hr3, h⟩ := bd h
   refine cA Try.call38 (t_laws_eqInt64SSS _ _ _ hr3) ?_
   refine a_not ?_
   refine rN ?_
   refine cn h (fun hc h => ?_) (fun hc h => ?_)
   ·refine sR ?_
    refine a_as ?_
    refine rN ?_
    refine CW.ret ?_
    refine rA ?_
    obtain rfl := sI h
    exact rT
   ·refine CW.skip ?_
    refine nA ?_
    refine sR ?_
    refine a_as ?_
    refine rN ?_
    refine CW.ret ?_
    obtain rfl := sI h
    exact rT
theorem t_laws_markInt64S (x0 : List Int) (x1 : Int) (r : Int × (List Int)) (h : f_laws_markInt64S x0 x1 = some r) : FnC Try.prog 41 [L 1 I x0, I x1] [I r.1] [(0, lV r.2)] := by
 refine fB Try.func41 (fun St W w0 v => ?_)
 refine sR ?_
 refine a_as ?_
 refine rN ?_
 refine CW.seq ?_
 refine sR ?_
 refine a_as ?_
 refine rN ?_
 refine CW.block ?_
 obtain ⟨r4, hr4, h⟩ := bd h
 refine CW.lp (s := (x0, x1, 0)) l1_laws_markInt64S (fun s1 : (List Int) × Int × Int => envL [(0, L 1 I s1.1), (1, I s1.2.1), (5, I s1.2.2)]) (fun (r4 : ((List Int) × Int)) e E => e = .exit 0 ∧ Ghost ⟨St, W, w0, Try.f41.ntmps⟩ E (envL [(0, L 1 I r4.1), (1, I r4.2)])) (.has ⟨rfl, rfl, rfl, trivial⟩) (fun s1 x h => ?_) hr4 (fun e E hq => ?_)
 ·refine CW.seq ?_
  refine sR ?_
  refine a_mv ?_
  refine a_mv ?_
  refine a_len ?_
  refine a_lss ?_
  refine rN ?_
  refine cn h (fun hc h => ?_) (fun hc h => ?_)
  ·refine CW.skip ?_
   refine nA ?_
   refine CW.seq ?_
   refine CW.block ?_
   refine sR ?_
   refine a_mv ?_
   refine a_mv ?_
   refine a_mv ?_
   obtain ⟨v1, hv1, h⟩ := bd h
   refine a_ix ?_
   refine oP (x_st inf_2 rfl rfl rfl (getc hv1 rfl) (setc hv1 rfl) rfl (clean_of (Enc.clean (f := I) _)) rfl) ?_
   refine rN ?_
   refine CW.region ?_
   refine a_mv ?_
   obtain ⟨v2, hv2, h⟩ := bd h
   refine a_add ?_
   refine a_as ?_
   refine RW.nil ?_
   refine nB ?_
   refine nA ?_
   refine CW.region ?_
   refine a_mv ?_
   obtain ⟨v3, hv3, h⟩ := bd h
   refine a_add ?_
   refine a_as ?_
   refine RW.nil ?_
   exact eN h
  ·refine CW.exit ?_
   refine xA ?_
   exact eX h
 ·obtain ⟨rfl, hg⟩ := hq
  refine xB ?_
  refine nA ?_
  refine CW.ghost hg ?_
  refine sR ?_
  refine a_mv ?_
  refine a_as ?_
  refine rN ?_
  refine CW.ret ?_
  obtain rfl := sI h
  exact rT
theorem t_laws_markInt64SS (x0 : List (List Int)) (x1 : Int) (r : Int × (List (List Int))) (h : f_laws_markInt64SS x0 x1 = some r) : FnC Try.prog 42 [L 1 lV x0, I x1] [I r.1] [(0, lM r.2)] := by
 refine fB Try.func42 (fun St W w0 v => ?_)
 refine sR ?_
 refine a_as ?_
 refine rN ?_
 refine CW.seq ?_
 refine sR ?_
 refine a_as ?_
 refine rN ?_
 refine CW.block ?_
 obtain ⟨r4, hr4, h⟩ := bd h
 refine CW.lp (s := (x0, x1, 0)) l1_laws_markInt64SS (fun s1 : (List (List Int)) × Int × Int => envL [(0, L 1 lV s1.1), (1, I s1.2.1), (5, I s1.2.2)]) (fun (r4 : ((List (List Int)) × Int)) e E => e = .exit 0 ∧ Ghost ⟨St, W, w0, Try.f42.ntmps⟩ E (envL [(0, L 1 lV r4.1), (1, I r4.2)])) (.has ⟨rfl, rfl, rfl, trivial⟩) (fun s1 x h => ?_) hr4 (fun e E hq => ?_)
 ·refine CW.seq ?_
  refine sR ?_
  refine a_mv ?_
  refine a_mv ?_
  refine a_len ?_
  refine a_lss ?_
  refine rN ?_
  refine cn h (fun hc h => ?_) (fun hc h => ?_)
  ·refine CW.skip ?_
   refine nA ?_
   refine CW.seq ?_
   refine CW.block ?_
   refine CW.region ?_
   refine a_mv ?_
   refine a_mv ?_
   obtain ⟨v1, hv1, h⟩ := bd h
   refine a_ix ?_
   refine a_ld ?_
   refine a_mv ?_
   obtain ⟨r2, hr2, h⟩ := bd h
   refine oP (x_callM (xs := [.tmp 15, .tmp 16]) 0 15 0 [s1.2.2.toNat] Try.call41 (t_laws_markInt64S _ _ _ hr2) rfl rfl (getc hv1 rfl) (clean_of (cleanL (Enc.clean (f := I)))) (clean_of (cleanL (Enc.clean (f := I)))) (Enc.rofree (f := L 1 I) _) (Enc.rofree (f := L 1 I) _) ⟨(agLd rfl (clean_of (cleanL (Enc.clean (f := I)))) (Enc.rofree (f := L 1 I) _)), ⟨(agM _ rfl rfl rfl), trivial⟩⟩ (resC (f := I) inferInstance resN) (setc hv1 rfl) rfl rfl rfl) ?_
   refine a_as ?_
   refine RW.nil ?_
   refine nB ?_
   refine nA ?_
   refine CW.region ?_
   refine a_mv ?_
   obtain ⟨v3, hv3, h⟩ := bd h
   refine a_add ?_
   refine a_as ?_
   refine RW.nil ?_
   exact eN h
  ·refine CW.exit ?_
   refine xA ?_
   exact eX h
 ·obtain ⟨rfl, hg⟩ := hq
  refine xB ?_
  refine nA ?_
  refine CW.ghost hg ?_
  refine sR ?_
  refine a_mv ?_
  refine a_as ?_
  refine rN ?_
  refine CW.ret ?_
  obtain rfl := sI h
  exact rT
theorem t_laws_markInt64SSS (x0 : List (List (List Int))) (x1 : Int) (r : Int × (List (List (List Int)))) (h : f_laws_markInt64SSS x0 x1 = some r) : FnC Try.prog 43 [L 1 lM x0, I x1] [I r.1] [(0, lC r.2)] := by
 refine fB Try.func43 (fun St W w0 v => ?_)
 refine sR ?_
 refine a_as ?_
 refine rN ?_
 refine CW.seq ?_
 refine sR ?_
 refine a_as ?_
 refine rN ?_
 refine CW.block ?_
 obtain ⟨r4, hr4, h⟩ := bd h
 refine CW.lp (s := (x0, x1, 0)) l1_laws_markInt64SSS (fun s1 : (List (List (List Int))) × Int × Int => envL [(0, L 1 lM s1.1), (1, I s1.2.1), (5, I s1.2.2)]) (fun (r4 : ((List (List (List Int))) × Int)) e E => e = .exit 0 ∧ Ghost ⟨St, W, w0, Try.f43.ntmps⟩ E (envL [(0, L 1 lM r4.1), (1, I r4.2)])) (.has ⟨rfl, rfl, rfl, trivial⟩) (fun s1 x h => ?_) hr4 (fun e E hq => ?_)
 ·refine CW.seq ?_
  refine sR ?_
  refine a_mv ?_
  refine a_mv ?_
  refine a_len ?_
  refine a_lss ?_
  refine rN ?_
  refine cn h (fun hc h => ?_) (fun hc h => ?_)
  ·refine CW.skip ?_
   refine nA ?_
   refine CW.seq ?_
   refine CW.block ?_
   refine CW.region ?_
   refine a_mv ?_
   refine a_mv ?_
   obtain ⟨v1, hv1, h⟩ := bd h
   refine a_ix ?_
   refine a_ld ?_
   refine a_mv ?_
   obtain ⟨r2, hr2, h⟩ := bd h
   refine oP (x_callM (xs := [.tmp 15, .tmp 16]) 0 15 0 [s1.2.2.toNat] Try.call42 (t_laws_markInt64SS _ _ _ hr2) rfl rfl (getc hv1 rfl) (clean_of (cleanL (Enc.clean (f := lV)))) (clean_of (cleanL (Enc.clean (f := lV)))) (Enc.rofree (f := L 1 lV) _) (Enc.rofree (f := L 1 lV) _) ⟨(agLd rfl (clean_of (cleanL (Enc.clean (f := lV)))) (Enc.rofree (f := L 1 lV) _)), ⟨(agM _ rfl rfl rfl), trivial⟩⟩ (resC (f := I) inferInstance resN) (setc hv1 rfl) rfl rfl rfl) ?_
   refine a_as ?_
   refine RW.nil ?_
   refine nB ?_
   refine nA ?_
   refine CW.region ?_
   refine a_mv ?_
   obtain ⟨v3, hv3, h⟩ := bd h
   refine a_add ?_
   refine a_as ?_
   refine RW.nil ?_
   exact eN h
  ·refine CW.exit ?_
   refine xA ?_
   exact eX h
 ·obtain ⟨rfl, hg⟩ := hq
  refine xB ?_
  refine nA ?_
  refine CW.ghost hg ?_
  refine sR ?_
  refine a_mv ?_
  refine a_as ?_
  refine rN ?_
  refine CW.ret ?_
  obtain rfl := sI h
  exact rT
theorem t_laws_markPresentation (x0 : SPresentation) (x1 : Int) (r : Int × SPresentation) (h : f_laws_markPresentation x0 x1 = some r) : FnC Try.prog 16 [eSPresentation x0, I x1] [I r.1] [(0, eSPresentation r.2)] := by
 refine fB Try.func16 (fun St W w0 v => ?_) (ht := ⟨Top.of_clean _ (Enc.clean (f := eSPresentation) _), by simp [Top, Tops], trivial⟩)
 refine sR ?_
 refine oP (x_box rfl (clean_of (cleanA ⟨(cleanL (Enc.clean (f := I))), (cleanL (Enc.clean (f := lV))), (cleanL (Enc.clean (f := lM))), trivial⟩)) rfl) ?_
 refine a_as ?_
 refine rN ?_
 refine sR ?_
 refine a_fa ?_
 refine a_ld ?_
 refine a_mv ?_
 obtain ⟨r1, hr1, h⟩ := bd h
 refine oP (x_callM (xs := [.tmp 6, .tmp 7]) 0 6 2 [0, 0] Try.call41 (t_laws_markInt64S _ _ _ hr1) rfl rfl rfl (clean_of (cleanL (Enc.clean (f := I)))) (clean_of (cleanL (Enc.clean (f := I)))) (Enc.rofree (f := L 1 I) _) (Enc.rofree (f := L 1 I) _) ⟨(agLd rfl (clean_of (cleanL (Enc.clean (f := I)))) (Enc.rofree (f := L 1 I) _)), ⟨(agM _ rfl rfl rfl), trivial⟩⟩ (resC (f := I) inferInstance resN) rfl rfl rfl rfl) ?_
 refine a_as ?_
 refine rN ?_
 refine sR ?_
 refine a_fa ?_
 refine a_ld ?_
 refine a_mv ?_
 obtain ⟨r2, hr2, h⟩ := bd h
 refine oP (x_callM (xs := [.tmp 10, .tmp 11]) 0 10 2 [1, 0] Try.call42 (t_laws_markInt64SS _ _ _ hr2) rfl rfl rfl (clean_of (cleanL (Enc.clean (f := lV)))) (clean_of (cleanL (Enc.clean (f := lV)))) (Enc.rofree (f := L 1 lV) _) (Enc.rofree (f := L 1 lV) _) ⟨(agLd rfl (clean_of (cleanL (Enc.clean (f := lV)))) (Enc.rofree (f := L 1 lV) _)), ⟨(agM _ rfl rfl rfl), trivial⟩⟩ (resC (f := I) inferInstance resN) rfl rfl rfl rfl) ?_
 refine a_as ?_
 refine rN ?_
 refine sR ?_
 refine a_fa ?_
 refine a_ld ?_
 refine a_mv ?_
 obtain ⟨r3, hr3, h⟩ := bd h
 refine oP (x_callM (xs := [.tmp 14, .tmp 15]) 0 14 2 [2, 0] Try.call43 (t_laws_markInt64SSS _ _ _ hr3) rfl rfl rfl (clean_of (cleanL (Enc.clean (f := lM)))) (clean_of (cleanL (Enc.clean (f := lM)))) (Enc.rofree (f := L 1 lM) _) (Enc.rofree (f := L 1 lM) _) ⟨(agLd rfl (clean_of (cleanL (Enc.clean (f := lM)))) (Enc.rofree (f := L 1 lM) _)), ⟨(agM _ rfl rfl rfl), trivial⟩⟩ (resC (f := I) inferInstance resN) rfl rfl rfl rfl) ?_
 refine a_as ?_
 refine RW.ghost (Ghost.trf 0 [0] 2 [0, 0] _ _ rfl rfl rfl rfl rfl (clean_of (cleanL (Enc.clean (f := I)))) rfl) ?_
 refine RW.ghost (Ghost.trf 0 [1] 2 [1, 0] _ _ rfl rfl rfl rfl rfl (clean_of (cleanL (Enc.clean (f := lV)))) rfl) ?_
 refine RW.ghost (Ghost.trf 0 [2] 2 [2, 0] _ _ rfl rfl rfl rfl rfl (clean_of (cleanL (Enc.clean (f := lM)))) rfl) ?_
 refine rN ?_
 refine sR ?_
 refine a_mv ?_
 refine a_as ?_
 refine rN ?_
 refine CW.ret ?_
 obtain rfl := sI h
 exact rT
theorem t_laws_markModule (x0 : SModule) (x1 : Int) (r : Int × SModule) (h : f_laws_markModule x0 x1 = some r) : FnC Try.prog 17 [eSModule x0, I x1] [I r.1] [(0, eSModule r.2)] := by
 refine fB Try.func17 (fun St W w0 v => ?_) (ht := ⟨Top.of_clean _ (Enc.clean (f := eSModule) _), by simp [Top, Tops], trivial⟩)
 refine sR ?_
 refine oP (x_box rfl (clean_of (cleanA ⟨(Enc.clean (f := I) _), (Enc.clean (f := I) _), (cleanL (Enc.clean (f := lM))), trivial⟩)) rfl) ?_
 refine a_as ?_
 refine rN ?_
 refine sR ?_
 refine a_fa ?_
 refine a_ld ?_
 refine a_mv ?_
 obtain ⟨r1, hr1, h⟩ := bd h
 refine oP (x_callM (xs := [.tmp 6, .tmp 7]) 0 6 2 [2, 0] Try.call43 (t_laws_markInt64SSS _ _ _ hr1) rfl rfl rfl (clean_of (cleanL (Enc.clean (f := lM)))) (clean_of (cleanL (Enc.clean (f := lM)))) (Enc.rofree (f := L 1 lM) _) (Enc.rofree (f := L 1 lM) _) ⟨(agLd rfl (clean_of (cleanL (Enc.clean (f := lM)))) (Enc.rofree (f := L 1 lM) _)), ⟨(agM _ rfl rfl rfl), trivial⟩⟩ (resC (f := I) inferInstance resN) rfl rfl rfl rfl) ?_
 refine a_as ?_
 refine RW.ghost (Ghost.trf 0 [2] 2 [2, 0] _ _ rfl rfl rfl rfl rfl (clean_of (cleanL (Enc.clean (f := lM)))) rfl) ?_
 refine rN ?_
 refine sR ?_
 refine a_mv ?_
 refine a_as ?_
 refine rN ?_
 refine CW.ret ?_
 obtain rfl := sI h
 exact rT
theorem t_laws_heldInt64S (x0 : List Int) (x1 : Int) (r : Int) (h : f_laws_heldInt64S x0 x1 = some r) : FnC Try.prog 51 [T.ro (lV x0), I x1] [I r] [] := by
 refine fB Try.func51 (fun St W w0 v => ?_)
 refine sR ?_
 refine a_as ?_
 refine rN ?_
 refine CW.seq ?_
 refine sR ?_
 refine a_as ?_
 refine rN ?_
 refine CW.block ?_
 obtain ⟨r4, hr4, h⟩ := bd h
 refine CW.lp (s := (x1, 0)) (l1_laws_heldInt64S x0) (fun s1 : Int × Int => envL [(0, T.ro (lV x0)), (1, I s1.1), (5, I s1.2)]) (fun (x : Int ⊕ Int) e E => match x with | (.inl r4) => e = .exit 0 ∧ Ghost ⟨St, W, w0, Try.f51.ntmps⟩ E (envL [(1, I r4)]) | (.inr r4) => e = .ret ∧ RetG ⟨St, W, w0, Try.f51.ntmps⟩ Try.prog Try.f51.results [T.ro (lV x0), I x1] [I r4] [] .ret E) (.has ⟨rfl, rfl, rfl, trivial⟩) (fun s1 x h => ?_) hr4 (fun e E hq => ?_)
 ·refine CW.seq ?_
  refine sR ?_
  refine a_mv ?_
  refine a_mv ?_
  refine a_lenr ?_
  refine a_lss ?_
  refine rN ?_
  refine cn h (fun hc h => ?_) (fun hc h => ?_)
  ·refine CW.skip ?_
   refine nA ?_
   refine CW.seq ?_
   refine CW.block ?_
   refine CW.seq ?_
   refine sR ?_
   refine a_mv ?_
   refine a_mv ?_
   obtain ⟨v1, hv1, h⟩ := bd h
   refine a_ixr ?_
   refine a_ldr ?_
   refine a_mv ?_
   refine a_neq ?_
   refine rN ?_
   refine cn h (fun hc h => ?_) (fun hc h => ?_)
   ·refine sR ?_
    refine a_as ?_
    refine rN ?_
    refine CW.ret ?_
    refine rA ?_
    refine rB ?_
    refine rA ?_
    exact eX h
   ·refine CW.skip ?_
    refine nA ?_
    refine CW.region ?_
    refine a_mv ?_
    obtain ⟨v2, hv2, h⟩ := bd h
    refine a_add ?_
    refine a_as ?_
    refine RW.nil ?_
    refine nB ?_
    refine nA ?_
    refine CW.region ?_
    refine a_mv ?_
    obtain ⟨v3, hv3, h⟩ := bd h
    refine a_add ?_
    refine a_as ?_
    refine RW.nil ?_
    exact eN h
  ·refine CW.exit ?_
   refine xA ?_
   exact eX h
 ·rcases r4 with r4 | r4
  ·obtain ⟨rfl, hg⟩ := hq
   refine xB ?_
   refine nA ?_
   refine CW.ghost hg ?_
   refine sR ?_
   refine a_mv ?_
   refine a_as ?_
   refine rN ?_
   refine CW.ret ?_
   obtain rfl := sI h
   exact rT
  ·obtain ⟨rfl, hq⟩ := hq
   refine rB ?_
   refine rA ?_
   obtain rfl := sI h
   exact hq
theorem t_laws_heldInt64SS (x0 : List (List Int)) (x1 : Int) (r : Int) (h : f_laws_heldInt64SS x0 x1 = some r) : FnC Try.prog 52 [T.ro (lM x0), I x1] [I r] [] := by
 refine fB Try.func52 (fun St W w0 v => ?_)
 refine sR ?_
 refine a_as ?_
 refine rN ?_
 refine CW.seq ?_
 refine sR ?_
 refine a_as ?_
 refine rN ?_
 refine CW.block ?_
 obtain ⟨r4, hr4, h⟩ := bd h
 refine CW.lp (s := (x1, 0)) (l1_laws_heldInt64SS x0) (fun s1 : Int × Int => envL [(0, T.ro (lM x0)), (1, I s1.1), (5, I s1.2)]) (fun (x : Int ⊕ Int) e E => match x with | (.inl r4) => e = .exit 0 ∧ Ghost ⟨St, W, w0, Try.f52.ntmps⟩ E (envL [(1, I r4)]) | (.inr r4) => e = .ret ∧ RetG ⟨St, W, w0, Try.f52.ntmps⟩ Try.prog Try.f52.results [T.ro (lM x0), I x1] [I r4] [] .ret E) (.has ⟨rfl, rfl, rfl, trivial⟩) (fun s1 x h => ?_) hr4 (fun e E hq => ?_)
 ·refine CW.seq ?_
  refine sR ?_
  refine a_mv ?_
  refine a_mv ?_
  refine a_lenr ?_
  refine a_lss ?_
  refine rN ?_
  refine cn h (fun hc h => ?_) (fun hc h => ?_)
  ·refine CW.skip ?_
   refine nA ?_
   refine CW.seq ?_
   refine CW.block ?_
   refine sR ?_
   refine a_mv ?_
   refine a_mv ?_
   obtain ⟨v1, hv1, h⟩ := bd h
   refine a_ixr ?_
   refine a_ldr ?_
   refine a_mv ?_
   obtain ⟨r2, hr2, h⟩ := bd h
   refine cA Try.call51 (t_laws_heldInt64S _ _ _ hr2) ?_
   refine a_as ?_
   refine rN ?_
   refine sR ?_
   refine a_mv ?_
   refine a_lss ?_
   refine rN ?_
   refine cn h (fun hc h => ?_) (fun hc h => ?_)
   ·refine sR ?_
    refine a_as ?_
    refine rN ?_
    refine CW.ret ?_
    refine rB ?_
    refine rA ?_
    exact eX h
   ·refine CW.skip ?_
    refine nB ?_
    refine nA ?_
    refine CW.region ?_
    refine a_mv ?_
    obtain ⟨v3, hv3, h⟩ := bd h
    refine a_add ?_
    refine a_as ?_
    refine RW.nil ?_
    exact eN h
  ·refine CW.exit ?_
   refine xA ?_
   exact eX h
 ·rcases r4 with r4 | r4
  ·obtain ⟨rfl, hg⟩ := hq
   refine xB ?_
   refine nA ?_
   refine CW.ghost hg ?_
   refine sR ?_
   refine a_mv ?_
   refine a_as ?_
   refine rN ?_
   refine CW.ret ?_
   obtain rfl := sI h
   exact rT
  ·obtain ⟨rfl, hq⟩ := hq
   refine rB ?_
   refine rA ?_
   obtain rfl := sI h
   exact hq
end Go.Wk

namespace Go.Wk
open Go Go.Proofs Go.Ab
set_option maxRecDepth 100000
theorem t_laws_heldInt64SSS (x0 : List (List (List Int))) (x1 : Int) (r : Int) (h : f_laws_heldInt64SSS x0 x1 = some r) : FnC Try.prog 44 [T.ro (lC x0), I x1] [I r] [] := by
 refine fB Try.func44 (fun St W w0 v => ?_)
 refine sR ?_
 refine a_as ?_
 refine rN ?_
 refine CW.seq ?_
 refine sR ?_
 refine a_as ?_
 refine rN ?_
 refine CW.block ?_
 obtain ⟨r4, hr4, h⟩ := bd h
 refine CW.lp (s := (x1, 0)) (l1_laws_heldInt64SSS x0) (fun s1 : Int × Int => envL [(0, T.ro (lC x0)), (1, I s1.1), (5, I s1.2)]) (fun (x : Int ⊕ Int) e E => match x with | (.inl r4) => e = .exit 0 ∧ Ghost ⟨St, W, w0, Try.f44.ntmps⟩ E (envL [(1, I r4)]) | (.inr r4) => e = .ret ∧ RetG ⟨St, W, w0, Try.f44.ntmps⟩ Try.prog Try.f44.results [T.ro (lC x0), I x1] [I r4] [] .ret E) (.has ⟨rfl, rfl, rfl, trivial⟩) (fun s1 x h => ?_) hr4 (fun e E hq => ?_)
 ·refine CW.seq ?_
  refine sR ?_
  refine a_mv ?_
  refine a_mv ?_
  refine a_lenr ?_
  refine a_lss ?_
  refine rN ?_
  refine cn h (fun hc h => ?_) (fun hc h => ?_)
  ·refine CW.skip ?_
   refine nA ?_
   refine CW.seq ?_
   refine CW.block ?_
   refine sR ?_
   refine a_mv ?_
   refine a_mv ?_
   obtain ⟨v1, hv1, h⟩ := bd h
   refine a_ixr ?_
   refine a_ldr ?_
   refine a_mv ?_
   obtain ⟨r2, hr2, h⟩ := bd h
   refine cA Try.call52 (t_laws_heldInt64SS _ _ _ hr2) ?_
   refine a_as ?_
   refine rN ?_
   refine sR ?_
   refine a_mv ?_
   refine a_lss ?_
   refine rN ?_
   refine cn h (fun hc h => ?_) (fun hc h => ?_)
   ·refine sR ?_
    refine a_as ?_
    refine rN ?_
    refine CW.ret ?_
    refine rB ?_
    refine rA ?_
    exact eX h
   ·refine CW.skip ?_
    refine nB ?_
    refine nA ?_
    refine CW.region ?_
    refine a_mv ?_
    obtain ⟨v3, hv3, h⟩ := bd h
    refine a_add ?_
    refine a_as ?_
    refine RW.nil ?_
    exact eN h
  ·refine CW.exit ?_
   refine xA ?_
   exact eX h
 ·rcases r4 with r4 | r4
  ·obtain ⟨rfl, hg⟩ := hq
   refine xB ?_
   refine nA ?_
   refine CW.ghost hg ?_
   refine sR ?_
   refine a_mv ?_
   refine a_as ?_
   refine rN ?_
   refine CW.ret ?_
   obtain rfl := sI h
   exact rT
  ·obtain ⟨rfl, hq⟩ := hq
   refine rB ?_
   refine rA ?_
   obtain rfl := sI h
   exact hq
end Go.Wk

namespace Go.Wk
open Go Go.Proofs Go.Ab
set_option maxRecDepth 100000
end Go.Wk

namespace Go.Wk
open Go Go.Proofs Go.Ab
set_option maxRecDepth 100000
theorem t_spec_l23Count (x0 : SPresentation) (r : Int) (h : f_spec_l23Count x0 = some r) : FnC Try.prog 108 [qPresentation x0] [I r] [] := by
 refine fB Try.func108 (fun St W w0 v => ?_)
 refine sR ?_
 refine a_box ?_
 refine a_as ?_
 refine rN ?_
 refine sR ?_
 refine a_fa ?_
 refine a_ld ?_
 refine a_lenr ?_
 refine a_as ?_
 refine rN ?_
 refine sR ?_
 refine a_mv ?_
 refine a_mv ?_
 refine a_mv ?_
 obtain ⟨v1, hv1, h⟩ := bd h
 refine a_sub ?_
 obtain ⟨v2, hv2, h⟩ := bd h
 refine a_mul ?_
 obtain ⟨v3, hv3, h⟩ := bd h
 refine a_quo ?_
 obtain ⟨v4, hv4, h⟩ := bd h
 refine a_add ?_
 refine a_as ?_
 refine rN ?_
 refine CW.ret ?_
 obtain rfl := sI h
 exact rT
theorem t_spec_l24Zero (x0 : SPresentation) (x1 : SModule) (r : (List (List Int))) (h : f_spec_l24Zero x0 x1 = some r) : FnC Try.prog 68 [qPresentation x0, qModule x1] [lM r] [] := by
 refine fB Try.func68 (fun St W w0 v => ?_)
 refine sR ?_
 refine a_box ?_
 refine a_box ?_
 refine oP (x_nil 1 rfl) ?_
 refine rN ?_
 refine sR ?_
 refine oP (x_bs0 elt_23 rfl) ?_
 refine a_as ?_
 refine RW.ghost (Ghost.tr 5 7 _ rfl rfl (clean_of trivial) rfl) ?_
 refine rN ?_
 refine CW.seq ?_
 refine sR ?_
 refine a_as ?_
 refine rN ?_
 refine CW.block ?_
 obtain ⟨r5, hr5, h⟩ := bd h
 refine CW.lp (s := ([], 0)) (l1_spec_l24Zero x0 x1) (fun s1 : (List (List Int)) × Int => envL [(2, T.ptr (qPresentation x0)), (3, T.ptr (qModule x1)), (5, L 1 lV s1.1), (6, I s1.2)]) (fun (r5 : (List (List Int))) e E => e = .exit 0 ∧ Ghost ⟨St, W, w0, Try.f68.ntmps⟩ E (envL [(5, L 1 lV r5)])) (.has ⟨rfl, rfl, rfl, rfl, trivial⟩) (fun s1 x h => ?_) hr5 (fun e E hq => ?_)
 ·refine CW.seq ?_
  refine sR ?_
  refine a_mv ?_
  refine a_ldp ?_
  obtain ⟨r1, hr1, h⟩ := bd h
  refine cA Try.call108 (t_spec_l23Count _ _ hr1) ?_
  refine a_lss ?_
  refine rN ?_
  refine cn h (fun hc h => ?_) (fun hc h => ?_)
  ·refine CW.skip ?_
   refine nA ?_
   refine CW.seq ?_
   refine CW.block ?_
   refine CW.region ?_
   refine a_mv ?_
   refine a_fa ?_
   refine a_ld ?_
   obtain ⟨m2, hm2, h⟩ := bd h
   refine oP (x_makeL (f := I) (z := 0) elt_22 (rfl) hm2 rfl rfl rfl) ?_
   refine oP (x_bs elt_23 [.tmp 17] [.slot 17 (L 1 I (List.replicate m2 (0 : Int)))] [List.replicate m2 (0 : Int)] lV ⟨.slot _ _, trivial⟩ (pkS rfl (clean_of (cleanL (Enc.clean (f := I)))) rfl pkN) rfl rfl) ?_
   refine RW.ghost (Ghost.tr 14 5 _ rfl rfl (clean_of (cleanL (Enc.clean (f := lV)))) rfl) ?_
   obtain ⟨v3, hv3, h⟩ := bd h
   refine oP (x_appm (f := lV) elt_23 hv3 rfl rfl rfl) ?_
   refine a_as ?_
   refine RW.ghost (Ghost.tr 5 19 _ rfl rfl (clean_of (cleanL (Enc.clean (f := lV)))) rfl) ?_
   refine RW.nil ?_
   refine nB ?_
   refine nA ?_
   refine CW.region ?_
   refine a_mv ?_
   obtain ⟨v4, hv4, h⟩ := bd h
   refine a_add ?_
   refine a_as ?_
   refine RW.nil ?_
   exact eN h
  ·refine CW.exit ?_
   refine xA ?_
   exact eX h
 ·obtain ⟨rfl, hg⟩ := hq
  refine xB ?_
  refine nA ?_
  refine CW.ghost hg ?_
  refine sR ?_
  refine a_mv ?_
  refine a_as ?_
  refine RW.ghost (Ghost.tr 4 5 _ rfl rfl (clean_of (cleanL (Enc.clean (f := lV)))) rfl) ?_
  refine rN ?_
  refine CW.ret ?_
  obtain rfl := sI h
  exact rT
theorem t_spec_l23Place (x0 : Int) (x1 : Int) (x2 : Int) (r : Int) (h : f_spec_l23Place x0 x1 x2 = some r) : FnC Try.prog 138 [I x0, I x1, I x2] [I r] [] := by
 refine fB Try.func138 (fun St W w0 v => ?_)
 refine sR ?_
 refine a_as ?_
 refine rN ?_
 refine sR ?_
 refine a_mv ?_
 refine a_mv ?_
 refine a_mv ?_
 obtain ⟨v1, hv1, h⟩ := bd h
 refine a_mul ?_
 obtain ⟨v2, hv2, h⟩ := bd h
 refine a_add ?_
 refine a_mv ?_
 refine a_mv ?_
 obtain ⟨v3, hv3, h⟩ := bd h
 refine a_add ?_
 obtain ⟨v4, hv4, h⟩ := bd h
 refine a_mul ?_
 obtain ⟨v5, hv5, h⟩ := bd h
 refine a_quo ?_
 obtain ⟨v6, hv6, h⟩ := bd h
 refine a_sub ?_
 refine a_mv ?_
 obtain ⟨v7, hv7, h⟩ := bd h
 refine a_add ?_
 refine a_mv ?_
 obtain ⟨v8, hv8, h⟩ := bd h
 refine a_sub ?_
 obtain ⟨v9, hv9, h⟩ := bd h
 refine a_sub ?_
 refine a_as ?_
 refine rN ?_
 refine CW.ret ?_
 obtain rfl := sI h
 exact rT
theorem t_spec_l24Extend (x0 : SPresentation) (x1 : SModule) (x2 : List (List Int)) (r : SPresentation) (h : f_spec_l24Extend x0 x1 x2 = some r) : FnC Try.prog 107 [qPresentation x0, qModule x1, T.ro (lM x2)] [eSPresentation r] [] := by
 refine fB Try.func107 (fun St W w0 v => ?_)
 refine sR ?_
 refine a_box ?_
 refine a_box ?_
 refine a_alloc ?_
 refine rN ?_
 refine CW.seq ?_
 refine CW.dk ?_
 refine d_fa [(3, _)] ?_
 refine d_ld [(18, _), (3, _)] ?_
 refine d_lenr [(19, _)] ?_
 refine d_fa [(4, _)] ?_
 refine d_ld [(21, _), (4, _)] ?_
 refine d_as [(20, _)] ?_
 refine d_as [(22, _)] ?_
 refine dNA mixedP ?_
 refine nA ?_
 refine sR ?_
 refine a_fa ?_
 refine a_ld ?_
 obtain ⟨r1, hr1, h⟩ := bd h
 refine cA Try.call72 (t_spec_l01Own _ _ hr1) ?_
 refine oP (x_bs0 elt_23 rfl) ?_
 refine oP (x_bs0 elt_24 rfl) ?_
 refine oP (x_build bld_34 [(0, .tmp 25), (1, .tmp 26), (2, .tmp 27)] [(0, .slot 25 (L 1 I r1)), (1, .slot 26 (L 1 I [])), (2, .slot 27 (L 1 I []))] [.slot 25 (L 1 I r1), .slot 26 (L 1 I []), .slot 27 (L 1 I [])] (pkS rfl (clean_of (cleanL (Enc.clean (f := I)))) rfl (pkS rfl (clean_of trivial) rfl (pkS rfl (clean_of trivial) rfl pkN))) (bqC (.slot _ _) (bqC (.slot _ _) (bqC (.slot _ _) bqN))) rfl) ?_
 refine a_alloc ?_
 refine oP (x_stp inf_34 rfl (locB rfl rfl) rfl rfl rfl rfl (clean_of (cleanA ⟨(cleanL (Enc.clean (f := I))), trivial, trivial, trivial⟩)) rfl) ?_
 refine rN ?_
 refine CW.seq ?_
 refine sR ?_
 refine a_as ?_
 refine rN ?_
 refine CW.block ?_
 obtain ⟨r4, hr4, h⟩ := bd h
 refine CW.lp (s := (r1, 0)) (l1_spec_l24Extend x1) (fun s1 : (List Int) × Int => envL [(2, T.ro (lM x2)), (3, T.ptr (qPresentation x0)), (4, T.ptr (qModule x1)), (6, T.ptr (T.agg [L 1 I [], L 1 lV [], L 1 lM []])), (7, I (x0.Orders.length : Int)), (8, I x1.Dim), (9, T.ptr (T.agg [L 1 I s1.1, L 1 I [], L 1 I []])), (10, I s1.2)]) (fun (r4 : (List Int)) e E => e = .exit 0 ∧ Ghost ⟨St, W, w0, Try.f107.ntmps⟩ E (envL [(2, T.ro (lM x2)), (3, T.ptr (qPresentation x0)), (4, T.ptr (qModule x1)), (6, T.ptr (T.agg [L 1 I [], L 1 lV [], L 1 lM []])), (7, I (x0.Orders.length : Int)), (8, I x1.Dim), (9, T.ptr (T.agg [L 1 I r4, L 1 I [], L 1 I []]))])) (.has ⟨rfl, rfl, rfl, rfl, rfl, rfl, rfl, rfl, trivial⟩) (fun s1 x h => ?_) hr4 (fun e E hq => ?_)
 ·refine CW.seq ?_
  refine sR ?_
  refine a_mv ?_
  refine a_mv ?_
  refine a_lss ?_
  refine rN ?_
  refine cn h (fun hc h => ?_) (fun hc h => ?_)
  ·refine CW.skip ?_
   refine nA ?_
   refine CW.seq ?_
   refine CW.block ?_
   refine CW.region ?_
   refine a_fa ?_
   refine a_ld ?_
   refine a_fa ?_
   refine a_ld ?_
   refine oP (x_bs elt_22 [.tmp 37] [.slot 37 (I x1.Prime)] [x1.Prime] I ⟨.slot _ _, trivial⟩ (pkS rfl (clean_of (Enc.clean (f := I) _)) rfl pkN) rfl rfl) ?_
   refine RW.ghost (Ghost.trq 35 9 [0, 0] rfl rfl rfl (clean_of (cleanL (Enc.clean (f := I)))) rfl) ?_
   obtain ⟨v2, hv2, h⟩ := bd h
   refine oP (x_appc (f := I) elt_22 (fun _ => rfl) hv2 rfl (locB rfl rfl) rfl) ?_
   refine a_fa ?_
   refine oP (x_st inf_22 rfl rfl rfl rfl rfl rfl (clean_of (cleanL (Enc.clean (f := I)))) rfl) ?_
   refine RW.nil ?_
   refine nB ?_
   refine nA ?_
   refine CW.region ?_
   refine a_mv ?_
   obtain ⟨v3, hv3, h⟩ := bd h
   refine a_add ?_
   refine a_as ?_
   refine RW.nil ?_
   exact eN h
  ·refine CW.exit ?_
   refine xA ?_
   exact eX h
 ·obtain ⟨rfl, hg⟩ := hq
  refine xB ?_
  refine nA ?_
  refine CW.ghost hg ?_
  refine CW.seq ?_
  refine sR ?_
  refine a_as ?_
  refine rN ?_
  refine CW.block ?_
  obtain ⟨r31, hr31, h⟩ := bd h
  refine CW.lp (s := ([], [], 0)) (l4_spec_l24Extend x0 x1 x2) (fun s11 : (List (List Int)) × (List (List (List Int))) × Int => envL [(2, T.ro (lM x2)), (3, T.ptr (qPresentation x0)), (4, T.ptr (qModule x1)), (6, T.ptr (T.agg [L 1 I [], L 1 lV [], L 1 lM []])), (7, I (x0.Orders.length : Int)), (8, I x1.Dim), (9, T.ptr (T.agg [L 1 I r4, L 1 lV s11.1, L 1 lM s11.2.1])), (11, I s11.2.2)]) (fun (r31 : ((List (List Int)) × (List (List (List Int))))) e E => e = .exit 2 ∧ Ghost ⟨St, W, w0, Try.f107.ntmps⟩ E (envL [(6, T.ptr (T.agg [L 1 I [], L 1 lV [], L 1 lM []])), (7, I (x0.Orders.length : Int)), (8, I x1.Dim), (9, T.ptr (T.agg [L 1 I r4, L 1 lV r31.1, L 1 lM r31.2]))])) (.has ⟨rfl, rfl, rfl, rfl, rfl, rfl, rfl, rfl, trivial⟩) (fun s11 x h => ?_) hr31 (fun e E hq => ?_)
  ·refine CW.seq ?_
   refine sR ?_
   refine a_mv ?_
   refine a_mv ?_
   refine a_lss ?_
   refine rN ?_
   refine cn h (fun hc h => ?_) (fun hc h => ?_)
   ·refine CW.skip ?_
    refine nA ?_
    refine CW.seq ?_
    refine CW.block ?_
    refine CW.seq ?_
    obtain ⟨v5, hv5, h⟩ := bd h
    obtain ⟨r6, hr6, h⟩ := bd h
    obtain ⟨v7, hv7, h⟩ := bd h
    obtain ⟨v8, hv8, h⟩ := bd h
    obtain ⟨v9, hv9, h⟩ := bd h
    refine CW.dk ?_
    refine d_fa [(9, _)] ?_
    refine d_ld [(46, _), (9, _)] ?_
    refine d_fa [(3, _)] ?_
    refine d_ld [(48, _), (3, _)] ?_
    refine d_mv [(11, _)] ?_
    refine d_ixr [(49, _), (50, _)] ?_
    refine d_ldr [(51, _)] ?_
    refine dC [(52, _)] Try.call72 (t_spec_l01Own _ _ hr6) ?_
    refine d_mv [(2, _)] ?_
    refine d_mv [(11, _)] ?_
    refine d_ixr [(54, _), (55, _)] ?_
    refine d_ldr [(56, _)] ?_
    refine dG [(53, _), (57, _)] [([(58, some (L 1 I v8)), (53, some T.any)], [(58, 0), (53, 1)])] ⟨rfl, rfl, trivial⟩ (fun E h => IxOk.opE (x_appr (f := I) (g := I) elt_22 (fun _ => rfl) (fun _ => rfl) inferInstance hv8 h.1 (locB h.2.1 rfl) rfl) rfl) ?_
    refine dG [(58, _)] [([(59, some (L 1 lV [v8])), (58, some (T.same 59 [0]))], [(59, 0), (58, 1)])] ⟨rfl, trivial⟩ (fun E h => IxOk.opE (x_bs elt_23 [.tmp 58] [.slot 58 (L 1 I v8)] [v8] lV ⟨.slot _ _, trivial⟩ (pkS h.1 (clean_of (cleanL (Enc.clean (f := I)))) rfl pkN) rfl rfl) rfl) ?_
    refine dG [(47, T.same 9 [1, 0]), (9, T.ptr (T.agg [L 1 I r4, L 1 lV s11.1, L 1 lM s11.2.1])), (59, L 1 lV [v8])] [([(47, some (L 1 lV s11.1)), (9, some (T.ptr (T.agg [L 1 I r4, T.any, L 1 lM s11.2.1])))], [(47, 1), (9, 3)]), ([(60, some (L 1 lV v9)), (47, some T.any), (59, some T.any)], [(60, 0), (47, 1), (59, 1)])] ⟨rfl, rfl, rfl, trivial⟩ (fun E h => IxOk.gh (Ghost.trq 47 9 [1, 0] h.1 h.2.1 rfl (clean_of (cleanL (Enc.clean (f := lV)))) rfl) <| IxOk.opE (x_appm (f := lV) elt_23 hv9 rfl (keepE h.2.2.1) rfl) rfl) ?_
    refine d_fa [(9, _)] ?_
    refine dG [(61, _), (9, _), (60, _)] [([(9, some (T.ptr (T.agg [L 1 I r4, L 1 lV v9, L 1 lM s11.2.1]))), (60, some (T.same 9 [1, 0]))], [(9, 2), (60, 1)])] ⟨rfl, rfl, rfl, trivial⟩ (fun E h => IxOk.opE (x_st inf_23 rfl h.1 h.2.1 rfl rfl h.2.2.1 (clean_of (cleanL (Enc.clean (f := lV)))) rfl) rfl) ?_
    refine dNA mixedP ?_
    refine nA ?_
    refine sR ?_
    refine oP (x_bs0 elt_23 rfl) ?_
    refine a_as ?_
    refine RW.ghost (Ghost.tr 12 62 _ rfl rfl (clean_of trivial) rfl) ?_
    refine rN ?_
    refine CW.seq ?_
    refine sR ?_
    refine a_mv ?_
    obtain ⟨v10, hv10, h⟩ := bd h
    refine a_add ?_
    refine a_as ?_
    refine rN ?_
    refine CW.block ?_
    obtain ⟨r21, hr21, h⟩ := bd h
    refine CW.lp (s := ([], v10)) (l2_spec_l24Extend x0 x2 s11) (fun s12 : (List (List Int)) × Int => envL [(2, T.ro (lM x2)), (3, T.ptr (qPresentation x0)), (4, T.ptr (qModule x1)), (6, T.ptr (T.agg [L 1 I [], L 1 lV [], L 1 lM []])), (7, I (x0.Orders.length : Int)), (8, I x1.Dim), (9, T.ptr (T.agg [L 1 I r4, L 1 lV v9, L 1 lM s11.2.1])), (11, I s11.2.2), (12, L 1 lV s12.1), (13, I s12.2)]) (fun (r21 : (List (List Int))) e E => e = .exit 4 ∧ Ghost ⟨St, W, w0, Try.f107.ntmps⟩ E (envL [(2, T.ro (lM x2)), (3, T.ptr (qPresentation x0)), (4, T.ptr (qModule x1)), (6, T.ptr (T.agg [L 1 I [], L 1 lV [], L 1 lM []])), (7, I (x0.Orders.length : Int)), (8, I x1.Dim), (9, T.ptr (T.agg [L 1 I r4, L 1 lV v9, L 1 lM s11.2.1])), (11, I s11.2.2), (12, L 1 lV r21)])) (.has ⟨rfl, rfl, rfl, rfl, rfl, rfl, rfl, rfl, rfl, rfl, trivial⟩) (fun s12 x h => ?_) hr21 (fun e E hq => ?_)
    ·refine CW.seq ?_
     refine sR ?_
     refine a_mv ?_
     refine a_mv ?_
     refine a_lss ?_
     refine rN ?_
     refine cn h (fun hc h => ?_) (fun hc h => ?_)
     ·refine CW.skip ?_
      refine nA ?_
      refine CW.seq ?_
      refine CW.block ?_
      refine CW.region ?_
      refine a_mv ?_
      refine a_fa ?_
      refine a_ld ?_
      refine a_mv ?_
      obtain ⟨v11, hv11, h⟩ := bd h
      refine a_ixr ?_
      refine a_ldr ?_
      refine a_mv ?_
      refine a_mv ?_
      obtain ⟨v12, hv12, h⟩ := bd h
      refine a_sub ?_
      obtain ⟨v13, hv13, h⟩ := bd h
      refine a_sub ?_
      obtain ⟨v14, hv14, h⟩ := bd h
      refine a_ixr ?_
      refine a_ldr ?_
      obtain ⟨r15, hr15, h⟩ := bd h
      refine cA Try.call72 (t_spec_l01Own _ _ hr15) ?_
      refine a_mv ?_
      refine a_mv ?_
      refine a_mv ?_
      refine a_mv ?_
      obtain ⟨r16, hr16, h⟩ := bd h
      refine cA Try.call138 (t_spec_l23Place _ _ _ _ hr16) ?_
      obtain ⟨v17, hv17, h⟩ := bd h
      refine a_ixr ?_
      refine a_ldr ?_
      obtain ⟨v18, hv18, h⟩ := bd h
      refine oP (x_appr (f := I) (g := I) elt_22 (fun _ => rfl) (fun _ => rfl) inferInstance hv18 rfl (locB rfl rfl) rfl) ?_
      refine oP (x_bs elt_23 [.tmp 90] [.slot 90 (L 1 I v18)] [v18] lV ⟨.slot _ _, trivial⟩ (pkS rfl (clean_of (cleanL (Enc.clean (f := I)))) rfl pkN) rfl rfl) ?_
      refine RW.ghost (Ghost.tr 70 12 _ rfl rfl (clean_of (cleanL (Enc.clean (f := lV)))) rfl) ?_
      obtain ⟨v19, hv19, h⟩ := bd h
      refine oP (x_appm (f := lV) elt_23 hv19 rfl rfl rfl) ?_
      refine a_as ?_
      refine RW.ghost (Ghost.tr 12 92 _ rfl rfl (clean_of (cleanL (Enc.clean (f := lV)))) rfl) ?_
      refine RW.nil ?_
      refine nB ?_
      refine nA ?_
      refine CW.to [(2, T.ro (lM x2)), (3, T.ptr (qPresentation x0)), (4, T.ptr (qModule x1)), (6, T.ptr (T.agg [L 1 I [], L 1 lV [], L 1 lM []])), (7, I (x0.Orders.length : Int)), (8, I x1.Dim), (9, T.ptr (T.agg [L 1 I r4, L 1 lV v9, L 1 lM s11.2.1])), (11, I s11.2.2), (12, L 1 lV v19), (13, I s12.2)] ⟨rfl, rfl, rfl, rfl, rfl, rfl, rfl, rfl, rfl, rfl, trivial⟩ ?_
      refine CW.region ?_
      refine a_mv ?_
      obtain ⟨v20, hv20, h⟩ := bd h
      refine a_add ?_
      refine a_as ?_
      refine RW.nil ?_
      exact eN h
     ·refine CW.exit ?_
      refine xA ?_
      exact eX h
    ·obtain ⟨rfl, hg⟩ := hq
     refine xB ?_
     refine nA ?_
     refine CW.ghost hg ?_
     refine CW.seq ?_
     refine sR ?_
     refine a_as ?_
     refine rN ?_
     refine CW.block ?_
     obtain ⟨r28, hr28, h⟩ := bd h
     refine CW.lp (s := (r21, 0)) (l3_spec_l24Extend x0 x1 s11) (fun s14 : (List (List Int)) × Int => envL [(2, T.ro (lM x2)), (3, T.ptr (qPresentation x0)), (4, T.ptr (qModule x1)), (6, T.ptr (T.agg [L 1 I [], L 1 lV [], L 1 lM []])), (7, I (x0.Orders.length : Int)), (8, I x1.Dim), (9, T.ptr (T.agg [L 1 I r4, L 1 lV v9, L 1 lM s11.2.1])), (11, I s11.2.2), (12, L 1 lV s14.1), (14, I s14.2)]) (fun (r28 : (List (List Int))) e E => e = .exit 6 ∧ Ghost ⟨St, W, w0, Try.f107.ntmps⟩ E (envL [(2, T.ro (lM x2)), (3, T.ptr (qPresentation x0)), (4, T.ptr (qModule x1)), (6, T.ptr (T.agg [L 1 I [], L 1 lV [], L 1 lM []])), (7, I (x0.Orders.length : Int)), (8, I x1.Dim), (9, T.ptr (T.agg [L 1 I r4, L 1 lV v9, L 1 lM s11.2.1])), (11, I s11.2.2), (12, L 1 lV r28)])) (.has ⟨rfl, rfl, rfl, rfl, rfl, rfl, rfl, rfl, rfl, rfl, trivial⟩) (fun s14 x h => ?_) hr28 (fun e E hq => ?_)
     ·refine CW.seq ?_
      refine sR ?_
      refine a_mv ?_
      refine a_mv ?_
      refine a_lss ?_
      refine rN ?_
      refine cn h (fun hc h => ?_) (fun hc h => ?_)
      ·refine CW.skip ?_
       refine nA ?_
       refine CW.seq ?_
       refine CW.block ?_
       obtain ⟨m22, hm22, h⟩ := bd h
       obtain ⟨v23, hv23, h⟩ := bd h
       obtain ⟨v24, hv24, h⟩ := bd h
       obtain ⟨v25, hv25, h⟩ := bd h
       obtain ⟨v26, hv26, h⟩ := bd h
       refine CW.dk ?_
       refine d_mv [(12, _)] ?_
       refine d_mv [(7, _)] ?_
       refine dG [(99, _)] [([(100, some (L 1 I (List.replicate m22 (0 : Int))))], [(100, 0)])] ⟨rfl, trivial⟩ (fun E h => IxOk.opE (x_makeL (f := I) (z := 0) elt_22 (rfl) hm22 h.1 h.1 rfl) rfl) ?_
       refine d_fa [(4, _)] ?_
       refine d_ld [(101, _), (4, _)] ?_
       refine d_mv [(11, _)] ?_
       refine d_ixr [(102, _), (103, _)] ?_
       refine d_ldr [(104, _)] ?_
       refine d_mv [(14, _)] ?_
       refine d_ixr [(105, _), (106, _)] ?_
       refine d_ldr [(107, _)] ?_
       refine dG [(100, _), (108, _)] [([(109, some (L 1 I v25)), (100, some T.any)], [(109, 0), (100, 1)])] ⟨rfl, rfl, trivial⟩ (fun E h => IxOk.opE (x_appr (f := I) (g := I) elt_22 (fun _ => rfl) (fun _ => rfl) inferInstance hv25 h.1 (locB h.2.1 rfl) rfl) rfl) ?_
       refine dG [(109, _)] [([(110, some (L 1 lV [v25])), (109, some (T.same 110 [0]))], [(110, 0), (109, 1)])] ⟨rfl, trivial⟩ (fun E h => IxOk.opE (x_bs elt_23 [.tmp 109] [.slot 109 (L 1 I v25)] [v25] lV ⟨.slot _ _, trivial⟩ (pkS h.1 (clean_of (cleanL (Enc.clean (f := I)))) rfl pkN) rfl rfl) rfl) ?_
       refine dG [(98, T.same 12 []), (12, L 1 lV s14.1), (110, L 1 lV [v25])] [([(98, some (L 1 lV s14.1)), (12, some (T.same 98 []))], [(98, 1), (12, 1)]), ([(111, some (L 1 lV v26)), (98, some T.any), (110, some T.any)], [(111, 0), (98, 1), (110, 1)])] ⟨rfl, rfl, rfl, trivial⟩ (fun E h => IxOk.gh (Ghost.tr 98 12 _ h.1 h.2.1 (clean_of (cleanL (Enc.clean (f := lV)))) rfl) <| IxOk.opE (x_appm (f := lV) elt_23 hv26 rfl (keepE h.2.2.1) rfl) rfl) ?_
       refine d_as [(111, _)] ?_
       refine dNA mixedP ?_
       refine nB ?_
       refine nA ?_
       refine CW.region ?_
       refine a_mv ?_
       obtain ⟨v27, hv27, h⟩ := bd h
       refine a_add ?_
       refine a_as ?_
       refine RW.ghost (Ghost.tr 12 111 _ rfl rfl (clean_of (cleanL (Enc.clean (f := lV)))) rfl) ?_
       refine RW.nil ?_
       exact eN h
      ·refine CW.exit ?_
       refine xA ?_
       exact eX h
     ·obtain ⟨rfl, hg⟩ := hq
      refine xB ?_
      refine nA ?_
      refine CW.ghost hg ?_
      refine CW.region ?_
      refine a_fa ?_
      refine a_ld ?_
      refine a_mv ?_
      refine RW.ghost (Ghost.tr 114 12 _ rfl rfl (clean_of (cleanL (Enc.clean (f := lV)))) rfl) ?_
      refine oP (x_bs elt_24 [.tmp 114] [.slot 114 (L 1 lV r28)] [r28] lM ⟨.slot _ _, trivial⟩ (pkS rfl (clean_of (cleanL (Enc.clean (f := lV)))) rfl pkN) rfl rfl) ?_
      refine RW.ghost (Ghost.trq 113 9 [2, 0] rfl rfl rfl (clean_of (cleanL (Enc.clean (f := lM)))) rfl) ?_
      obtain ⟨v29, hv29, h⟩ := bd h
      refine oP (x_appm (f := lM) elt_24 hv29 rfl rfl rfl) ?_
      refine a_fa ?_
      refine oP (x_st inf_24 rfl rfl rfl rfl rfl rfl (clean_of (cleanL (Enc.clean (f := lM)))) rfl) ?_
      refine RW.nil ?_
      refine nB ?_
      refine nA ?_
      refine CW.region ?_
      refine a_mv ?_
      obtain ⟨v30, hv30, h⟩ := bd h
      refine a_add ?_
      refine a_as ?_
      refine RW.nil ?_
      exact eN h
   ·refine CW.exit ?_
    refine xA ?_
    exact eX h
  ·obtain ⟨rfl, hg⟩ := hq
   refine xB ?_
   refine nA ?_
   refine CW.ghost hg ?_
   refine CW.seq ?_
   refine sR ?_
   refine a_as ?_
   refine rN ?_
   refine CW.block ?_
   obtain ⟨r44, hr44, h⟩ := bd h
   refine CW.lp (s := (r31.1, r31.2, 0)) (l6_spec_l24Extend x0 x1) (fun s21 : (List (List Int)) × (List (List (List Int))) × Int => envL [(6, T.ptr (T.agg [L 1 I [], L 1 lV [], L 1 lM []])), (7, I (x0.Orders.length : Int)), (8, I x1.Dim), (9, T.ptr (T.agg [L 1 I r4, L 1 lV s21.1, L 1 lM s21.2.1])), (15, I s21.2.2)]) (fun (r44 : ((List (List Int)) × (List (List (List Int))))) e E => e = .exit 8 ∧ Ghost ⟨St, W, w0, Try.f107.ntmps⟩ E (envL [(6, T.ptr (T.agg [L 1 I [], L 1 lV [], L 1 lM []])), (9, T.ptr (T.agg [L 1 I r4, L 1 lV r44.1, L 1 lM r44.2]))])) (.has ⟨rfl, rfl, rfl, rfl, rfl, trivial⟩) (fun s21 x h => ?_) hr44 (fun e E hq => ?_)
   ·refine CW.seq ?_
    refine sR ?_
    refine a_mv ?_
    refine a_mv ?_
    refine a_lss ?_
    refine rN ?_
    refine cn h (fun hc h => ?_) (fun hc h => ?_)
    ·refine CW.skip ?_
     refine nA ?_
     refine CW.seq ?_
     refine CW.block ?_
     refine CW.seq ?_
     obtain ⟨v32, hv32, h⟩ := bd h
     obtain ⟨m33, hm33, h⟩ := bd h
     obtain ⟨v34, hv34, h⟩ := bd h
     refine CW.dk ?_
     refine d_fa [(9, _)] ?_
     refine d_ld [(123, _), (9, _)] ?_
     refine d_mv [(7, _)] ?_
     refine d_mv [(8, _)] ?_
     refine d_add [(125, _), (126, _)] ?_
     refine dG [(127, _)] [([(128, some (L 1 I (List.replicate m33 (0 : Int))))], [(128, 0)])] ⟨rfl, trivial⟩ (fun E h => IxOk.opE (x_makeL (f := I) (z := 0) elt_22 (rfl) hm33 h.1 h.1 rfl) rfl) ?_
     refine dG [(128, _)] [([(129, some (L 1 lV [List.replicate m33 (0 : Int)])), (128, some (T.same 129 [0]))], [(129, 0), (128, 1)])] ⟨rfl, trivial⟩ (fun E h => IxOk.opE (x_bs elt_23 [.tmp 128] [.slot 128 (L 1 I (List.replicate m33 (0 : Int)))] [List.replicate m33 (0 : Int)] lV ⟨.slot _ _, trivial⟩ (pkS h.1 (clean_of (cleanL (Enc.clean (f := I)))) rfl pkN) rfl rfl) rfl) ?_
     refine dG [(124, T.same 9 [1, 0]), (9, T.ptr (T.agg [L 1 I r4, L 1 lV s21.1, L 1 lM s21.2.1])), (129, L 1 lV [List.replicate m33 (0 : Int)])] [([(124, some (L 1 lV s21.1)), (9, some (T.ptr (T.agg [L 1 I r4, T.any, L 1 lM s21.2.1])))], [(124, 1), (9, 3)]), ([(130, some (L 1 lV v34)), (124, some T.any), (129, some T.any)], [(130, 0), (124, 1), (129, 1)])] ⟨rfl, rfl, rfl, trivial⟩ (fun E h => IxOk.gh (Ghost.trq 124 9 [1, 0] h.1 h.2.1 rfl (clean_of (cleanL (Enc.clean (f := lV)))) rfl) <| IxOk.opE (x_appm (f := lV) elt_23 hv34 rfl (keepE h.2.2.1) rfl) rfl) ?_
     refine d_fa [(9, _)] ?_
     refine dG [(131, _), (9, _), (130, _)] [([(9, some (T.ptr (T.agg [L 1 I r4, L 1 lV v34, L 1 lM s21.2.1]))), (130, some (T.same 9 [1, 0]))], [(9, 2), (130, 1)])] ⟨rfl, rfl, rfl, trivial⟩ (fun E h => IxOk.opE (x_st inf_23 rfl h.1 h.2.1 rfl rfl h.2.2.1 (clean_of (cleanL (Enc.clean (f := lV)))) rfl) rfl) ?_
     refine dNA mixedP ?_
     refine nA ?_
     refine sR ?_
     refine oP (x_bs0 elt_23 rfl) ?_
     refine a_as ?_
     refine RW.ghost (Ghost.tr 16 132 _ rfl rfl (clean_of trivial) rfl) ?_
     refine rN ?_
     refine CW.seq ?_
     refine sR ?_
     refine a_mv ?_
     obtain ⟨v35, hv35, h⟩ := bd h
     refine a_add ?_
     refine a_as ?_
     refine rN ?_
     refine CW.block ?_
     obtain ⟨r41, hr41, h⟩ := bd h
     refine CW.lp (s := ([], v35)) (l5_spec_l24Extend x0 x1) (fun s22 : (List (List Int)) × Int => envL [(6, T.ptr (T.agg [L 1 I [], L 1 lV [], L 1 lM []])), (7, I (x0.Orders.length : Int)), (8, I x1.Dim), (9, T.ptr (T.agg [L 1 I r4, L 1 lV v34, L 1 lM s21.2.1])), (15, I s21.2.2), (16, L 1 lV s22.1), (17, I s22.2)]) (fun (r41 : (List (List Int))) e E => e = .exit 10 ∧ Ghost ⟨St, W, w0, Try.f107.ntmps⟩ E (envL [(6, T.ptr (T.agg [L 1 I [], L 1 lV [], L 1 lM []])), (7, I (x0.Orders.length : Int)), (8, I x1.Dim), (9, T.ptr (T.agg [L 1 I r4, L 1 lV v34, L 1 lM s21.2.1])), (15, I s21.2.2), (16, L 1 lV r41)])) (.has ⟨rfl, rfl, rfl, rfl, rfl, rfl, rfl, trivial⟩) (fun s22 x h => ?_) hr41 (fun e E hq => ?_)
     ·refine CW.seq ?_
      refine sR ?_
      refine a_mv ?_
      refine a_mv ?_
      refine a_lss ?_
      refine rN ?_
      refine cn h (fun hc h => ?_) (fun hc h => ?_)
      ·refine CW.skip ?_
       refine nA ?_
       refine CW.seq ?_
       refine CW.block ?_
       refine CW.region ?_
       refine a_mv ?_
       refine a_mv ?_
       refine a_mv ?_
       obtain ⟨v36, hv36, h⟩ := bd h
       refine a_add ?_
       refine a_mv ?_
       refine a_mv ?_
       obtain ⟨v37, hv37, h⟩ := bd h
       refine a_add ?_
       obtain ⟨r38, hr38, h⟩ := bd h
       refine cA Try.call57 (t_spec_l07Unit _ _ _ hr38) ?_
       refine oP (x_bs elt_23 [.tmp 147] [.slot 147 (L 1 I r38)] [r38] lV ⟨.slot _ _, trivial⟩ (pkS rfl (clean_of (cleanL (Enc.clean (f := I)))) rfl pkN) rfl rfl) ?_
       refine RW.ghost (Ghost.tr 140 16 _ rfl rfl (clean_of (cleanL (Enc.clean (f := lV)))) rfl) ?_
       obtain ⟨v39, hv39, h⟩ := bd h
       refine oP (x_appm (f := lV) elt_23 hv39 rfl rfl rfl) ?_
       refine a_as ?_
       refine RW.ghost (Ghost.tr 16 149 _ rfl rfl (clean_of (cleanL (Enc.clean (f := lV)))) rfl) ?_
       refine RW.nil ?_
       refine nB ?_
       refine nA ?_
       refine CW.region ?_
       refine a_mv ?_
       obtain ⟨v40, hv40, h⟩ := bd h
       refine a_add ?_
       refine a_as ?_
       refine RW.nil ?_
       exact eN h
      ·refine CW.exit ?_
       refine xA ?_
       exact eX h
     ·obtain ⟨rfl, hg⟩ := hq
      refine xB ?_
      refine nA ?_
      refine CW.ghost hg ?_
      refine CW.region ?_
      refine a_fa ?_
      refine a_ld ?_
      refine a_mv ?_
      refine RW.ghost (Ghost.tr 152 16 _ rfl rfl (clean_of (cleanL (Enc.clean (f := lV)))) rfl) ?_
      refine oP (x_bs elt_24 [.tmp 152] [.slot 152 (L 1 lV r41)] [r41] lM ⟨.slot _ _, trivial⟩ (pkS rfl (clean_of (cleanL (Enc.clean (f := lV)))) rfl pkN) rfl rfl) ?_
      refine RW.ghost (Ghost.trq 151 9 [2, 0] rfl rfl rfl (clean_of (cleanL (Enc.clean (f := lM)))) rfl) ?_
      obtain ⟨v42, hv42, h⟩ := bd h
      refine oP (x_appm (f := lM) elt_24 hv42 rfl rfl rfl) ?_
      refine a_fa ?_
      refine oP (x_st inf_24 rfl rfl rfl rfl rfl rfl (clean_of (cleanL (Enc.clean (f := lM)))) rfl) ?_
      refine RW.nil ?_
      refine nB ?_
      refine nA ?_
      refine CW.region ?_
      refine a_mv ?_
      obtain ⟨v43, hv43, h⟩ := bd h
      refine a_add ?_
      refine a_as ?_
      refine RW.nil ?_
      exact eN h
    ·refine CW.exit ?_
     refine xA ?_
     exact eX h
   ·obtain ⟨rfl, hg⟩ := hq
    refine xB ?_
    refine nA ?_
    refine CW.ghost hg ?_
    refine sR ?_
    refine a_ldp ?_
    refine RW.ghost (Ghost.trf 156 [0] 9 [0, 0] _ _ rfl rfl rfl rfl rfl (clean_of (cleanL (Enc.clean (f := I)))) rfl) ?_
    refine RW.ghost (Ghost.trf 156 [1] 9 [1, 0] _ _ rfl rfl rfl rfl rfl (clean_of (cleanL (Enc.clean (f := lV)))) rfl) ?_
    refine RW.ghost (Ghost.trf 156 [2] 9 [2, 0] _ _ rfl rfl rfl rfl rfl (clean_of (cleanL (Enc.clean (f := lM)))) rfl) ?_
    refine oP (x_stp inf_34 rfl (locB rfl rfl) rfl rfl rfl rfl (clean_of (cleanA ⟨(cleanL (Enc.clean (f := I))), (cleanL (Enc.clean (f := lV))), (cleanL (Enc.clean (f := lM))), trivial⟩)) rfl) ?_
    refine rN ?_
    refine CW.ret ?_
    obtain rfl := sI h
    exact ⟨_, Ghost.refl, ⟨.inl rfl, [(6, [0], T.agg [L 1 I r4, L 1 lV r44.1, L 1 lM r44.2])], ⟨⟨rfl, rfl, rfl, (var_34.h _ rfl rfl).h⟩, trivial⟩, rfl, (by simp), (by simp), trivial⟩⟩
theorem t_spec_l24Made (x0 : SPresentation) (x1 : SModule) (x2 : List (List Int)) (r : SPresentation × Int) (h : f_spec_l24Made x0 x1 x2 = some r) : FnC Try.prog 67 [qPresentation x0, qModule x1, T.ro (lM x2)] [eSPresentation r.1, I r.2] [] := by
 refine fB Try.func67 (fun St W w0 v => ?_)
 refine sR ?_
 refine a_box ?_
 refine a_box ?_
 refine a_alloc ?_
 refine a_as ?_
 refine rN ?_
 refine sR ?_
 refine a_ldp ?_
 refine a_ldp ?_
 refine a_mv ?_
 obtain ⟨r1, hr1, h⟩ := bd h
 refine cA Try.call107 (t_spec_l24Extend _ _ _ _ hr1) ?_
 refine a_alloc ?_
 refine oP (x_stp inf_34 rfl (locB rfl rfl) rfl rfl rfl rfl (clean_of (cleanA ⟨(cleanL (Enc.clean (f := I))), (cleanL (Enc.clean (f := lV))), (cleanL (Enc.clean (f := lM))), trivial⟩)) rfl) ?_
 refine rN ?_
 refine CW.seq ?_
 refine sR ?_
 refine a_ldp ?_
 obtain ⟨r2, hr2, h⟩ := bd h
 refine oP (x_call (xs := [.tmp 13]) Try.call74 (t_spec_IsPresentation _ _ hr2) ⟨(agC _ rfl (cloA (cloC (cloS rfl rfl inferInstance) (cloC (cloS rfl rfl inferInstance) (cloC (cloS rfl rfl inferInstance) cloN)))) rfl), trivial⟩ (resC (f := B) inferInstance resN) rfl) ?_
 refine a_not ?_
 refine rN ?_
 refine cn h (fun hc h => ?_) (fun hc h => ?_)
 ·refine sR ?_
  refine oP (x_build bld_34 [] [] [.zero (L 1 I []), .zero (L 1 lV []), .zero (L 1 lM [])] (pkZ rfl (pkZ rfl (pkZ rfl pkN))) bqN rfl) ?_
  refine oP (x_stp inf_34 rfl (locB rfl rfl) rfl rfl rfl rfl (clean_of (cleanA ⟨trivial, trivial, trivial, trivial⟩)) rfl) ?_
  refine a_as ?_
  refine rN ?_
  refine CW.ret ?_
  refine rA ?_
  obtain rfl := sI h
  exact ⟨_, Ghost.refl, ⟨.inl rfl, [(6, [0], T.agg [L 1 I [], L 1 lV [], L 1 lM []]), (7, [], I 3)], ⟨⟨rfl, rfl, rfl, (var_34.h _ rfl rfl).h⟩, ⟨rfl, rfl, rfl, rfl⟩, trivial⟩, rfl, (by simp), (by simp), trivial⟩⟩
 ·refine CW.skip ?_
  refine nA ?_
  refine sR ?_
  refine a_ldp ?_
  refine RW.ghost (Ghost.trf 17 [0] 8 [0, 0] _ _ rfl rfl rfl rfl rfl (clean_of (cleanL (Enc.clean (f := I)))) rfl) ?_
  refine RW.ghost (Ghost.trf 17 [1] 8 [1, 0] _ _ rfl rfl rfl rfl rfl (clean_of (cleanL (Enc.clean (f := lV)))) rfl) ?_
  refine RW.ghost (Ghost.trf 17 [2] 8 [2, 0] _ _ rfl rfl rfl rfl rfl (clean_of (cleanL (Enc.clean (f := lM)))) rfl) ?_
  refine oP (x_stp inf_34 rfl (locB rfl rfl) rfl rfl rfl rfl (clean_of (cleanA ⟨(cleanL (Enc.clean (f := I))), (cleanL (Enc.clean (f := lV))), (cleanL (Enc.clean (f := lM))), trivial⟩)) rfl) ?_
  refine a_as ?_
  refine rN ?_
  refine CW.ret ?_
  obtain rfl := sI h
  exact ⟨_, Ghost.refl, ⟨.inl rfl, [(6, [0], eSPresentation r1), (7, [], I 0)], ⟨⟨rfl, rfl, rfl, (var_34.h _ rfl rfl).h⟩, ⟨rfl, rfl, rfl, rfl⟩, trivial⟩, rfl, (by simp), (by simp), trivial⟩⟩
theorem t_spec_SplitExtension (x0 : SPresentation) (x1 : SModule) (r : SPresentation × Int) (h : f_spec_SplitExtension x0 x1 = some r) : FnC Try.prog 26 [qPresentation x0, qModule x1] [eSPresentation r.1, I r.2] [] := by
 refine fB Try.func26 (fun St W w0 v => ?_)
 refine sR ?_
 refine a_box ?_
 refine a_box ?_
 refine a_alloc ?_
 refine a_as ?_
 refine rN ?_
 refine CW.seq ?_
 refine sR ?_
 refine a_ldp ?_
 refine a_ldp ?_
 obtain ⟨r1, hr1, h⟩ := bd h
 refine cA Try.call53 (t_spec_IsModule _ _ _ hr1) ?_
 refine a_not ?_
 refine rN ?_
 refine cn h (fun hc h => ?_) (fun hc h => ?_)
 ·refine sR ?_
  refine oP (x_build bld_34 [] [] [.zero (L 1 I []), .zero (L 1 lV []), .zero (L 1 lM [])] (pkZ rfl (pkZ rfl (pkZ rfl pkN))) bqN rfl) ?_
  refine oP (x_stp inf_34 rfl (locB rfl rfl) rfl rfl rfl rfl (clean_of (cleanA ⟨trivial, trivial, trivial, trivial⟩)) rfl) ?_
  refine a_as ?_
  refine rN ?_
  refine CW.ret ?_
  refine rA ?_
  obtain rfl := sI h
  exact ⟨_, Ghost.refl, ⟨.inl rfl, [(4, [0], T.agg [L 1 I [], L 1 lV [], L 1 lM []]), (5, [], I 1)], ⟨⟨rfl, rfl, rfl, (var_34.h _ rfl rfl).h⟩, ⟨rfl, rfl, rfl, rfl⟩, trivial⟩, rfl, (by simp), (by simp), trivial⟩⟩
 ·refine CW.skip ?_
  refine nA ?_
  refine CW.seq ?_
  obtain ⟨r2, hr2, h⟩ := bd h
  obtain ⟨r3, hr3, h⟩ := bd h
  refine CW.dk ?_
  refine d_ldp [(2, _)] ?_
  refine d_ldp [(3, _)] ?_
  refine d_ldp [(2, _)] ?_
  refine d_ldp [(3, _)] ?_
  refine dC [(13, _), (14, _)] Try.call68 (t_spec_l24Zero _ _ _ hr2) ?_
  refine dC [(11, _), (12, _), (15, _)] Try.call67 (t_spec_l24Made _ _ _ _ hr3) ?_
  refine d_ext [(16, _)] ?_
  refine d_ext [(16, _)] ?_
  refine dG [(17, T.agg [T.same 16 [0, 0], T.same 16 [1, 0], T.same 16 [2, 0]]), (16, T.tup [eSPresentation r3.1, I r3.2]), (4, T.ptr (T.agg [L 1 I [], L 1 lV [], L 1 lM []]))] [([(17, some (T.agg [L 1 I r3.1.Orders, T.same 16 [1, 0], T.same 16 [2, 0]])), (16, some (T.tup [T.agg [T.any, L 1 lV r3.1.Powers, L 1 lM r3.1.Conjugates], I r3.2]))], [(17, 2), (16, 3)]), ([(17, some (T.agg [L 1 I r3.1.Orders, L 1 lV r3.1.Powers, T.same 16 [2, 0]])), (16, some (T.tup [T.agg [T.any, T.any, L 1 lM r3.1.Conjugates], I r3.2]))], [(17, 2), (16, 3)]), ([(17, some (eSPresentation r3.1)), (16, some (T.tup [T.agg [T.any, T.any, T.any], I r3.2]))], [(17, 2), (16, 3)]), ([(4, some (T.ptr (eSPresentation r3.1))), (17, some (T.agg [T.same 4 [0, 0], T.same 4 [1, 0], T.same 4 [2, 0]]))], [(4, 1), (17, 1)])] ⟨rfl, rfl, rfl, trivial⟩ (fun E h => IxOk.gh (Ghost.trf 17 [0] 16 [0, 0] _ _ h.1 rfl h.2.1 rfl rfl (clean_of (cleanL (Enc.clean (f := I)))) rfl) <| IxOk.gh (Ghost.trf 17 [1] 16 [1, 0] _ _ rfl rfl rfl rfl rfl (clean_of (cleanL (Enc.clean (f := lV)))) rfl) <| IxOk.gh (Ghost.trf 17 [2] 16 [2, 0] _ _ rfl rfl rfl rfl rfl (clean_of (cleanL (Enc.clean (f := lM)))) rfl) <| IxOk.opE (x_stp inf_34 rfl (locB (keepE (keepE (keepE h.2.2.1))) rfl) (keepE (keepE (keepE h.2.2.1))) rfl rfl rfl (clean_of (cleanA ⟨(cleanL (Enc.clean (f := I))), (cleanL (Enc.clean (f := lV))), (cleanL (Enc.clean (f := lM))), trivial⟩)) rfl) rfl) ?_
  refine d_as [(18, _)] ?_
  refine dNA mixedP ?_
  refine nA ?_
  refine CW.ret ?_
  obtain rfl := sI h
  exact ⟨_, Ghost.refl, ⟨.inl rfl, [(4, [0], eSPresentation r3.1), (5, [], I r3.2)], ⟨⟨rfl, rfl, rfl, (var_34.h _ rfl rfl).h⟩, ⟨rfl, rfl, rfl, rfl⟩, trivial⟩, rfl, (by simp), (by simp), trivial⟩⟩
theorem t_impl_relationCount (x0 : SPresentation) (r : Int) (h : f_impl_relationCount x0 = some r) : FnC Try.prog 71 [T.ro ((Pt eSPresentation) x0)] [I r] [] := by
 refine fB Try.func71 (fun St W w0 v => ?_)
 refine sR ?_
 refine a_as ?_
 refine rN ?_
 refine CW.seq ?_
 obtain ⟨v1, hv1, h⟩ := bd h
 obtain ⟨v2, hv2, h⟩ := bd h
 obtain ⟨v3, hv3, h⟩ := bd h
 refine CW.dk ?_
 refine d_mv [(0, _)] ?_
 refine d_nilc [(3, _)] ?_
 refine d_far [(4, _)] ?_
 refine d_ldr [(5, _)] ?_
 refine d_lenr [(6, _)] ?_
 refine d_mv [(0, _)] ?_
 refine d_nilc [(8, _)] ?_
 refine d_far [(9, _)] ?_
 refine d_ldr [(10, _)] ?_
 refine d_lenr [(11, _)] ?_
 refine d_add [(12, _)] ?_ (h := fun _ h => (x_add hv1 h.1 rfl rfl))
 refine d_mul [(7, _), (13, _)] ?_
 refine d_quo [(14, _)] ?_
 refine d_as [(15, _)] ?_
 refine dNA mixedP ?_
 refine nA ?_
 refine CW.ret ?_
 obtain rfl := sI h
 exact rT
theorem t_impl_split (x0 : List Int) (x1 : Int) (r : (List (List Int))) (h : f_impl_split x0 x1 = some r) : FnC Try.prog 70 [T.ro (lV x0), I x1] [lM r] [] := by
 refine fB Try.func70 (fun St W w0 v => ?_)
 refine sR ?_
 refine oP (x_nil 1 rfl) ?_
 refine rN ?_
 refine sR ?_
 refine oP (x_nil 1 rfl) ?_
 refine rN ?_
 refine CW.seq ?_
 refine sR ?_
 refine a_as ?_
 refine rN ?_
 refine CW.block ?_
 obtain ⟨r6, hr6, h⟩ := bd h
 refine CW.lp (s := ([], 0)) (l1_impl_split x0 x1) (fun s1 : (List (List Int)) × Int => envL [(0, T.ro (lV x0)), (1, I x1), (5, L 1 lV s1.1), (6, I s1.2)]) (fun (r6 : (List (List Int))) e E => e = .exit 0 ∧ Ghost ⟨St, W, w0, Try.f70.ntmps⟩ E (envL [(5, L 1 lV r6)])) (.has ⟨rfl, rfl, rfl, rfl, trivial⟩) (fun s1 x h => ?_) hr6 (fun e E hq => ?_)
 ·refine CW.seq ?_
  refine sR ?_
  refine a_mv ?_
  refine a_mv ?_
  refine a_lenr ?_
  refine a_lss ?_
  refine rN ?_
  refine cn h (fun hc h => ?_) (fun hc h => ?_)
  ·refine CW.skip ?_
   refine nA ?_
   refine CW.seq ?_
   refine CW.block ?_
   refine CW.region ?_
   refine a_mv ?_
   refine a_mv ?_
   refine a_mv ?_
   refine a_mv ?_
   refine a_mv ?_
   obtain ⟨v1, hv1, h⟩ := bd h
   refine oP (x_add hv1 rfl rfl rfl) ?_
   obtain ⟨v2, hv2, h⟩ := bd h
   refine oP (x_slr row_22 hv2 (locB rfl rfl) (optS (sliceO_lo hv2) rfl) (optS (sliceO_hi hv2) rfl) rfl) ?_
   obtain ⟨r3, hr3, h⟩ := bd h
   refine cA Try.call100 (t_slices_Clone_int64_int64 _ _ hr3) ?_
   refine oP (x_bs elt_23 [.tmp 21] [.slot 21 (L 1 I r3)] [r3] lV ⟨.slot _ _, trivial⟩ (pkS rfl (clean_of (cleanL (Enc.clean (f := I)))) rfl pkN) rfl rfl) ?_
   refine RW.ghost (Ghost.tr 14 5 _ rfl rfl (clean_of (cleanL (Enc.clean (f := lV)))) rfl) ?_
   obtain ⟨v4, hv4, h⟩ := bd h
   refine oP (x_appm (f := lV) elt_23 hv4 rfl rfl rfl) ?_
   refine a_as ?_
   refine RW.ghost (Ghost.tr 5 23 _ rfl rfl (clean_of (cleanL (Enc.clean (f := lV)))) rfl) ?_
   refine RW.nil ?_
   refine nB ?_
   refine nA ?_
   refine CW.region ?_
   refine a_mv ?_
   refine a_mv ?_
   obtain ⟨v5, hv5, h⟩ := bd h
   refine oP (x_add hv5 rfl rfl rfl) ?_
   refine a_as ?_
   refine RW.nil ?_
   exact eN h
  ·refine CW.exit ?_
   refine xA ?_
   exact eX h
 ·obtain ⟨rfl, hg⟩ := hq
  refine xB ?_
  refine nA ?_
  refine CW.ghost hg ?_
  refine sR ?_
  refine a_mv ?_
  refine a_as ?_
  refine RW.ghost (Ghost.tr 4 5 _ rfl rfl (clean_of (cleanL (Enc.clean (f := lV)))) rfl) ?_
  refine rN ?_
  refine CW.ret ?_
  obtain rfl := sI h
  exact rT
theorem t_impl_trivialRelations (x0 : List Int) (r : SPresentation) (h : f_impl_trivialRelations x0 = some r) : FnC Try.prog 85 [T.ro (lV x0)] [eSPresentation r] [] := by
 refine fB Try.func85 (fun St W w0 v => ?_)
 refine sR ?_
 refine a_alloc ?_
 refine rN ?_
 refine sR ?_
 refine a_mv ?_
 refine a_lenr ?_
 refine a_as ?_
 refine rN ?_
 refine sR ?_
 refine a_mv ?_
 obtain ⟨r1, hr1, h⟩ := bd h
 refine cA Try.call100 (t_slices_Clone_int64_int64 _ _ hr1) ?_
 refine oP (x_build bld_34 [(0, .tmp 11)] [(0, .slot 11 (L 1 I r1))] [.slot 11 (L 1 I r1), .zero (L 1 lV []), .zero (L 1 lM [])] (pkS rfl (clean_of (cleanL (Enc.clean (f := I)))) rfl (pkZ rfl (pkZ rfl pkN))) (bqC (.slot _ _) bqN) rfl) ?_
 refine a_alloc ?_
 refine oP (x_stp inf_34 rfl (locB rfl rfl) rfl rfl rfl rfl (clean_of (cleanA ⟨(cleanL (Enc.clean (f := I))), trivial, trivial, trivial⟩)) rfl) ?_
 refine rN ?_
 refine CW.seq ?_
 refine sR ?_
 refine a_mv ?_
 refine a_mv ?_
 refine rN ?_
 refine CW.block ?_
 obtain ⟨r11, hr11, h⟩ := bd h
 refine CW.lp (s := ([], [], 0)) (l2_impl_trivialRelations x0) (fun s5 : (List (List Int)) × (List (List (List Int))) × Int => envL [(2, T.ptr (T.agg [L 1 I [], L 1 lV [], L 1 lM []])), (3, I (x0.length : Int)), (4, T.ptr (T.agg [L 1 I r1, L 1 lV s5.1, L 1 lM s5.2.1])), (13, I (x0.length : Int)), (14, I s5.2.2)]) (fun (r11 : ((List (List Int)) × (List (List (List Int))))) e E => e = .exit 0 ∧ Ghost ⟨St, W, w0, Try.f85.ntmps⟩ E (envL [(2, T.ptr (T.agg [L 1 I [], L 1 lV [], L 1 lM []])), (4, T.ptr (T.agg [L 1 I r1, L 1 lV r11.1, L 1 lM r11.2]))])) (.has ⟨rfl, rfl, rfl, rfl, rfl, trivial⟩) (fun s5 x h => ?_) hr11 (fun e E hq => ?_)
 ·refine sR ?_
  refine a_lss ?_
  refine rN ?_
  refine CW.seq ?_
  refine cn h (fun hc h => ?_) (fun hc h => ?_)
  ·refine CW.skip ?_
   refine nA ?_
   refine CW.seq ?_
   refine CW.block ?_
   refine sR ?_
   refine a_mv ?_
   refine a_as ?_
   refine rN ?_
   refine CW.seq ?_
   obtain ⟨m2, hm2, h⟩ := bd h
   obtain ⟨v3, hv3, h⟩ := bd h
   refine CW.dk ?_
   refine d_fa [(4, _)] ?_
   refine d_ld [(17, _), (4, _)] ?_
   refine d_mv [(3, _)] ?_
   refine dG [(19, _)] [([(20, some (L 1 I (List.replicate m2 (0 : Int))))], [(20, 0)])] ⟨rfl, trivial⟩ (fun E h => IxOk.opE (x_makeL (f := I) (z := 0) elt_22 (rfl) hm2 h.1 h.1 rfl) rfl) ?_
   refine dG [(20, _)] [([(21, some (L 1 lV [List.replicate m2 (0 : Int)])), (20, some (T.same 21 [0]))], [(21, 0), (20, 1)])] ⟨rfl, trivial⟩ (fun E h => IxOk.opE (x_bs elt_23 [.tmp 20] [.slot 20 (L 1 I (List.replicate m2 (0 : Int)))] [List.replicate m2 (0 : Int)] lV ⟨.slot _ _, trivial⟩ (pkS h.1 (clean_of (cleanL (Enc.clean (f := I)))) rfl pkN) rfl rfl) rfl) ?_
   refine dG [(18, T.same 4 [1, 0]), (4, T.ptr (T.agg [L 1 I r1, L 1 lV s5.1, L 1 lM s5.2.1])), (21, L 1 lV [List.replicate m2 (0 : Int)])] [([(18, some (L 1 lV s5.1)), (4, some (T.ptr (T.agg [L 1 I r1, T.any, L 1 lM s5.2.1])))], [(18, 1), (4, 3)]), ([(22, some (L 1 lV v3)), (18, some T.any), (21, some T.any)], [(22, 0), (18, 1), (21, 1)])] ⟨rfl, rfl, rfl, trivial⟩ (fun E h => IxOk.gh (Ghost.trq 18 4 [1, 0] h.1 h.2.1 rfl (clean_of (cleanL (Enc.clean (f := lV)))) rfl) <| IxOk.opE (x_appm (f := lV) elt_23 hv3 rfl (keepE h.2.2.1) rfl) rfl) ?_
   refine d_fa [(4, _)] ?_
   refine dG [(23, _), (4, _), (22, _)] [([(4, some (T.ptr (T.agg [L 1 I r1, L 1 lV v3, L 1 lM s5.2.1]))), (22, some (T.same 4 [1, 0]))], [(4, 2), (22, 1)])] ⟨rfl, rfl, rfl, trivial⟩ (fun E h => IxOk.opE (x_st inf_23 rfl h.1 h.2.1 rfl rfl h.2.2.1 (clean_of (cleanL (Enc.clean (f := lV)))) rfl) rfl) ?_
   refine dNA mixedP ?_
   refine nA ?_
   refine sR ?_
   refine oP (x_nil 1 rfl) ?_
   refine rN ?_
   refine CW.seq ?_
   refine sR ?_
   refine a_mv ?_
   obtain ⟨v4, hv4, h⟩ := bd h
   refine a_add ?_
   refine a_as ?_
   refine rN ?_
   refine CW.block ?_
   obtain ⟨r8, hr8, h⟩ := bd h
   refine CW.lp (s := ([], v4)) (l1_impl_trivialRelations x0) (fun s6 : (List (List Int)) × Int => envL [(2, T.ptr (T.agg [L 1 I [], L 1 lV [], L 1 lM []])), (3, I (x0.length : Int)), (4, T.ptr (T.agg [L 1 I r1, L 1 lV v3, L 1 lM s5.2.1])), (6, L 1 lV s6.1), (7, I s6.2), (13, I (x0.length : Int)), (14, I s5.2.2)]) (fun (r8 : (List (List Int))) e E => e = .exit 2 ∧ Ghost ⟨St, W, w0, Try.f85.ntmps⟩ E (envL [(2, T.ptr (T.agg [L 1 I [], L 1 lV [], L 1 lM []])), (3, I (x0.length : Int)), (4, T.ptr (T.agg [L 1 I r1, L 1 lV v3, L 1 lM s5.2.1])), (6, L 1 lV r8), (13, I (x0.length : Int)), (14, I s5.2.2)])) (.has ⟨rfl, rfl, rfl, rfl, rfl, rfl, rfl, trivial⟩) (fun s6 x h => ?_) hr8 (fun e E hq => ?_)
   ·refine CW.seq ?_
    refine sR ?_
    refine a_mv ?_
    refine a_mv ?_
    refine a_lss ?_
    refine rN ?_
    refine cn h (fun hc h => ?_) (fun hc h => ?_)
    ·refine CW.skip ?_
     refine nA ?_
     refine CW.seq ?_
     refine CW.block ?_
     refine CW.region ?_
     refine a_mv ?_
     refine a_mv ?_
     refine a_mv ?_
     obtain ⟨r5, hr5, h⟩ := bd h
     refine cA Try.call123 (t_impl_unitVector _ _ _ hr5) ?_
     refine oP (x_bs elt_23 [.tmp 34] [.slot 34 (L 1 I r5)] [r5] lV ⟨.slot _ _, trivial⟩ (pkS rfl (clean_of (cleanL (Enc.clean (f := I)))) rfl pkN) rfl rfl) ?_
     refine RW.ghost (Ghost.tr 31 6 _ rfl rfl (clean_of (cleanL (Enc.clean (f := lV)))) rfl) ?_
     obtain ⟨v6, hv6, h⟩ := bd h
     refine oP (x_appm (f := lV) elt_23 hv6 rfl rfl rfl) ?_
     refine a_as ?_
     refine RW.ghost (Ghost.tr 6 36 _ rfl rfl (clean_of (cleanL (Enc.clean (f := lV)))) rfl) ?_
     refine RW.nil ?_
     refine nB ?_
     refine nA ?_
     refine CW.region ?_
     refine a_mv ?_
     obtain ⟨v7, hv7, h⟩ := bd h
     refine a_add ?_
     refine a_as ?_
     refine RW.nil ?_
     exact eN h
    ·refine CW.exit ?_
     refine xA ?_
     exact eX h
   ·obtain ⟨rfl, hg⟩ := hq
    refine xB ?_
    refine nA ?_
    refine CW.ghost hg ?_
    refine CW.region ?_
    refine a_fa ?_
    refine a_ld ?_
    refine a_mv ?_
    refine RW.ghost (Ghost.tr 39 6 _ rfl rfl (clean_of (cleanL (Enc.clean (f := lV)))) rfl) ?_
    refine oP (x_bs elt_24 [.tmp 39] [.slot 39 (L 1 lV r8)] [r8] lM ⟨.slot _ _, trivial⟩ (pkS rfl (clean_of (cleanL (Enc.clean (f := lV)))) rfl pkN) rfl rfl) ?_
    refine RW.ghost (Ghost.trq 38 4 [2, 0] rfl rfl rfl (clean_of (cleanL (Enc.clean (f := lM)))) rfl) ?_
    obtain ⟨v9, hv9, h⟩ := bd h
    refine oP (x_appm (f := lM) elt_24 hv9 rfl rfl rfl) ?_
    refine a_fa ?_
    refine oP (x_st inf_24 rfl rfl rfl rfl rfl rfl (clean_of (cleanL (Enc.clean (f := lM)))) rfl) ?_
    refine RW.nil ?_
    refine nB ?_
    refine nA ?_
    refine CW.region ?_
    obtain ⟨v10, hv10, h⟩ := bd h
    refine a_add ?_
    refine a_mv ?_
    refine RW.nil ?_
    exact eN h
  ·refine CW.exit ?_
   refine xA ?_
   exact eX h
 ·obtain ⟨rfl, hg⟩ := hq
  refine xB ?_
  refine nA ?_
  refine CW.ghost hg ?_
  refine sR ?_
  refine a_ldp ?_
  refine RW.ghost (Ghost.trf 44 [0] 4 [0, 0] _ _ rfl rfl rfl rfl rfl (clean_of (cleanL (Enc.clean (f := I)))) rfl) ?_
  refine RW.ghost (Ghost.trf 44 [1] 4 [1, 0] _ _ rfl rfl rfl rfl rfl (clean_of (cleanL (Enc.clean (f := lV)))) rfl) ?_
  refine RW.ghost (Ghost.trf 44 [2] 4 [2, 0] _ _ rfl rfl rfl rfl rfl (clean_of (cleanL (Enc.clean (f := lM)))) rfl) ?_
  refine oP (x_stp inf_34 rfl (locB rfl rfl) rfl rfl rfl rfl (clean_of (cleanA ⟨(cleanL (Enc.clean (f := I))), (cleanL (Enc.clean (f := lV))), (cleanL (Enc.clean (f := lM))), trivial⟩)) rfl) ?_
  refine rN ?_
  refine CW.ret ?_
  obtain rfl := sI h
  exact ⟨_, Ghost.refl, ⟨.inl rfl, [(2, [0], T.agg [L 1 I r1, L 1 lV r11.1, L 1 lM r11.2])], ⟨⟨rfl, rfl, rfl, (var_34.h _ rfl rfl).h⟩, trivial⟩, rfl, (by simp), (by simp), trivial⟩⟩
theorem t_impl_extension (x0 : SPresentation) (x1 : SModule) (x2 : List (List Int)) (r : SPresentation) (h : f_impl_extension x0 x1 x2 = some r) : FnC Try.prog 109 [T.ro ((Pt eSPresentation) x0), T.ro ((Pt eSModule) x1), T.ro (lM x2)] [eSPresentation r] [] := by
 refine fB Try.func109 (fun St W w0 v => ?_)
 refine sR ?_
 refine a_alloc ?_
 refine rN ?_
 refine CW.seq ?_
 refine CW.dk ?_
 refine d_mv [(0, _)] ?_
 refine d_nilc [(18, _)] ?_
 refine d_far [(19, _)] ?_
 refine d_ldr [(20, _)] ?_
 refine d_lenr [(21, _)] ?_
 refine d_mv [(1, _)] ?_
 refine d_nilc [(23, _)] ?_
 refine d_far [(24, _)] ?_
 refine d_ldr [(25, _)] ?_
 refine d_as [(22, _)] ?_
 refine d_as [(26, _)] ?_
 refine dNA mixedP ?_
 refine nA ?_
 refine CW.seq ?_
 obtain ⟨r1, hr1, h⟩ := bd h
 obtain ⟨r2, hr2, h⟩ := bd h
 obtain ⟨v3, hv3, h⟩ := bd h
 obtain ⟨r4, hr4, h⟩ := bd h
 refine CW.dk ?_
 refine d_mv [(0, _)] ?_
 refine d_nilc [(27, _)] ?_
 refine d_far [(28, _)] ?_
 refine d_ldr [(29, _)] ?_
 refine dC [(30, _)] Try.call100 (t_slices_Clone_int64_int64 _ _ hr1) ?_
 refine d_mv [(1, _)] ?_
 refine d_nilc [(32, _)] ?_
 refine d_far [(33, _)] ?_
 refine d_ldr [(34, _)] ?_
 refine dG [(35, _)] [([(36, some (L 1 I [x1.Prime]))], [(36, 0)])] ⟨rfl, trivial⟩ (fun E h => IxOk.opE (x_bs elt_22 [.tmp 35] [.slot 35 (I x1.Prime)] [x1.Prime] I ⟨.slot _ _, trivial⟩ (pkS h.1 (clean_of (Enc.clean (f := I) _)) rfl pkN) rfl rfl) rfl) ?_
 refine d_mv [(8, _)] ?_
 refine dC [(36, _), (37, _)] Try.call132 (t_slices_Repeat_int64_int64 _ _ _ hr2) ?_
 refine dG [(31, _), (38, _)] [([(39, some (L 1 I v3)), (31, some T.any)], [(39, 0), (31, 1)])] ⟨rfl, rfl, trivial⟩ (fun E h => IxOk.opE (x_appc (f := I) elt_22 (fun _ => rfl) hv3 h.1 (locB h.2.1 rfl) rfl) rfl) ?_
 refine dC [(39, _)] Try.call85 (t_impl_trivialRelations _ _ hr4) ?_
 refine d_alloc [] ?_
 refine dG [(9, _), (40, _)] [([(9, some (T.ptr (eSPresentation r4))), (40, some (T.agg [T.same 9 [0, 0], T.same 9 [1, 0], T.same 9 [2, 0]]))], [(9, 1), (40, 1)])] ⟨rfl, rfl, trivial⟩ (fun E h => IxOk.opE (x_stp inf_34 rfl (locB h.1 rfl) h.1 rfl rfl h.2.1 (clean_of (cleanA ⟨(cleanL (Enc.clean (f := I))), (cleanL (Enc.clean (f := lV))), (cleanL (Enc.clean (f := lM))), trivial⟩)) rfl) rfl) ?_
 refine dNA mixedP ?_
 refine nA ?_
 refine CW.seq ?_
 refine CW.to [(0, T.ro ((Pt eSPresentation) x0)), (1, T.ro ((Pt eSModule) x1)), (2, T.ro (lM x2)), (6, T.ptr (T.agg [L 1 I [], L 1 lV [], L 1 lM []])), (7, I (x0.Orders.length : Int)), (9, T.ptr (eSPresentation r4))] ⟨rfl, rfl, rfl, rfl, rfl, rfl, trivial⟩ ?_
 refine CW.region ?_
 refine a_as ?_
 refine rN ?_
 refine CW.seq ?_
 refine sR ?_
 refine a_mv ?_
 refine a_nilc ?_
 refine a_far ?_
 refine a_ldr ?_
 refine a_lenr ?_
 refine a_mv ?_
 refine rN ?_
 refine CW.block ?_
 obtain ⟨r11, hr11, h⟩ := bd h
 refine CW.lp (s := (r4.Powers, 0, 0)) (l1_impl_extension x0 x2) (fun s1 : (List (List Int)) × Int × Int => envL [(0, T.ro ((Pt eSPresentation) x0)), (1, T.ro ((Pt eSModule) x1)), (2, T.ro (lM x2)), (6, T.ptr (T.agg [L 1 I [], L 1 lV [], L 1 lM []])), (7, I (x0.Orders.length : Int)), (9, T.ptr (T.agg [L 1 I r4.Orders, L 1 lV s1.1, L 1 lM r4.Conjugates])), (10, I s1.2.1), (44, T.ro (lM x0.Powers)), (45, I (x0.Powers.length : Int)), (46, I s1.2.2)]) (fun (r11 : ((List (List Int)) × Int)) e E => e = .exit 0 ∧ Ghost ⟨St, W, w0, Try.f109.ntmps⟩ E (envL [(0, T.ro ((Pt eSPresentation) x0)), (1, T.ro ((Pt eSModule) x1)), (2, T.ro (lM x2)), (6, T.ptr (T.agg [L 1 I [], L 1 lV [], L 1 lM []])), (7, I (x0.Orders.length : Int)), (9, T.ptr (T.agg [L 1 I r4.Orders, L 1 lV r11.1, L 1 lM r4.Conjugates])), (10, I r11.2)])) (.has ⟨rfl, rfl, rfl, rfl, rfl, rfl, rfl, rfl, rfl, rfl, trivial⟩) (fun s1 x h => ?_) hr11 (fun e E hq => ?_)
 ·refine sR ?_
  refine a_lss ?_
  refine rN ?_
  refine CW.seq ?_
  refine cn h (fun hc h => ?_) (fun hc h => ?_)
  ·refine CW.skip ?_
   refine nA ?_
   refine CW.seq ?_
   refine CW.block ?_
   refine sR ?_
   refine a_mv ?_
   obtain ⟨v5, hv5, h⟩ := bd h
   refine a_ixr ?_
   refine a_ldr ?_
   refine a_as ?_
   refine a_as ?_
   refine rN ?_
   refine CW.seq ?_
   obtain ⟨v6, hv6, h⟩ := bd h
   obtain ⟨r7, hr7, h⟩ := bd h
   obtain ⟨v8, hv8, h⟩ := bd h
   refine CW.dk ?_
   refine d_fa [(9, _)] ?_
   refine d_ld [(51, _), (9, _)] ?_
   refine d_mv [(11, _)] ?_
   refine d_mv [(12, _)] ?_
   refine d_mv [(2, _)] ?_
   refine d_mv [(10, _)] ?_
   refine d_ixr [(55, _), (56, _)] ?_
   refine d_ldr [(57, _)] ?_
   refine dG [(54, _), (58, _)] [([(59, some (L 1 (Ro lV) [v5, v6]))], [(59, 0)])] ⟨rfl, rfl, trivial⟩ (fun E h => IxOk.opE (x_bs elt_23 [.tmp 54, .tmp 58] [.slot 54 (T.ro (lV v5)), .slot 58 (T.ro (lV v6))] [v5, v6] (Ro lV) ⟨.slot _ _, .slot _ _, trivial⟩ (pkS h.1 (clean_of trivial) rfl (pkS h.2.1 (clean_of trivial) rfl pkN)) rfl rfl) rfl) ?_
   refine dC [(59, _)] Try.call73 (t_slices_Concat_int64_int64 _ _ hr7) ?_
   refine d_ix [(52, _), (9, _), (53, _)] ?_
   refine dG [(61, _), (9, _), (60, _)] [([(9, some (T.ptr (T.agg [L 1 I r4.Orders, L 1 lV (s1.1.set s1.2.2.toNat r7), L 1 lM r4.Conjugates]))), (60, some (T.same 9 [s1.2.2.toNat, 1, 0]))], [(9, 3), (60, 1)])] ⟨rfl, rfl, rfl, trivial⟩ (fun E h => IxOk.opE (x_st inf_22 rfl h.1 h.2.1 (getp (geta rfl (getc hv8 rfl))) (setp (seta rfl (setc hv8 rfl))) h.2.2.1 (clean_of (cleanL (Enc.clean (f := I)))) rfl) rfl) ?_
   refine dNA mixedP ?_
   refine nA ?_
   refine CW.region ?_
   refine a_mv ?_
   obtain ⟨v9, hv9, h⟩ := bd h
   refine oP (x_add hv9 rfl rfl rfl) ?_
   refine a_as ?_
   refine RW.nil ?_
   refine nB ?_
   refine nA ?_
   refine CW.region ?_
   obtain ⟨v10, hv10, h⟩ := bd h
   refine oP (x_add hv10 rfl rfl rfl) ?_
   refine a_mv ?_
   refine RW.nil ?_
   exact eN h
  ·refine CW.exit ?_
   refine xA ?_
   exact eX h
 ·obtain ⟨rfl, hg⟩ := hq
  refine xB ?_
  refine nA ?_
  refine CW.ghost hg ?_
  refine CW.seq ?_
  refine sR ?_
  refine a_mv ?_
  refine a_mv ?_
  refine rN ?_
  refine CW.block ?_
  obtain ⟨r32, hr32, h⟩ := bd h
  refine CW.lp (s := (r4.Conjugates, r11.2, 0)) (l4_impl_extension x0 x1 x2) (fun s11 : (List (List (List Int))) × Int × Int => envL [(0, T.ro ((Pt eSPresentation) x0)), (1, T.ro ((Pt eSModule) x1)), (2, T.ro (lM x2)), (6, T.ptr (T.agg [L 1 I [], L 1 lV [], L 1 lM []])), (7, I (x0.Orders.length : Int)), (9, T.ptr (T.agg [L 1 I r4.Orders, L 1 lV r11.1, L 1 lM s11.1])), (10, I s11.2.1), (65, I (x0.Orders.length : Int)), (66, I s11.2.2)]) (fun (r32 : (List (List (List Int)))) e E => e = .exit 2 ∧ Ghost ⟨St, W, w0, Try.f109.ntmps⟩ E (envL [(6, T.ptr (T.agg [L 1 I [], L 1 lV [], L 1 lM []])), (9, T.ptr (T.agg [L 1 I r4.Orders, L 1 lV r11.1, L 1 lM r32]))])) (.has ⟨rfl, rfl, rfl, rfl, rfl, rfl, rfl, rfl, rfl, trivial⟩) (fun s11 x h => ?_) hr32 (fun e E hq => ?_)
  ·refine sR ?_
   refine a_lss ?_
   refine rN ?_
   refine CW.seq ?_
   refine cn h (fun hc h => ?_) (fun hc h => ?_)
   ·refine CW.skip ?_
    refine nA ?_
    refine CW.seq ?_
    refine CW.block ?_
    refine sR ?_
    refine a_mv ?_
    refine a_as ?_
    refine rN ?_
    refine CW.seq ?_
    refine sR ?_
    refine a_mv ?_
    refine a_nilc ?_
    refine a_far ?_
    refine a_ldr ?_
    refine a_mv ?_
    obtain ⟨v12, hv12, h⟩ := bd h
    refine a_ixr ?_
    refine a_ldr ?_
    refine a_lenr ?_
    refine a_mv ?_
    refine rN ?_
    refine CW.block ?_
    obtain ⟨r20, hr20, h⟩ := bd h
    refine CW.lp (s := (s11.1, s11.2.1, 0)) (l2_impl_extension x2 s11 v12) (fun s12 : (List (List (List Int))) × Int × Int => envL [(0, T.ro ((Pt eSPresentation) x0)), (1, T.ro ((Pt eSModule) x1)), (2, T.ro (lM x2)), (6, T.ptr (T.agg [L 1 I [], L 1 lV [], L 1 lM []])), (7, I (x0.Orders.length : Int)), (9, T.ptr (T.agg [L 1 I r4.Orders, L 1 lV r11.1, L 1 lM s12.1])), (10, I s12.2.1), (13, I s11.2.2), (65, I (x0.Orders.length : Int)), (66, I s11.2.2), (75, T.ro (lM v12)), (76, I (v12.length : Int)), (77, I s12.2.2)]) (fun (r20 : ((List (List (List Int))) × Int)) e E => e = .exit 4 ∧ Ghost ⟨St, W, w0, Try.f109.ntmps⟩ E (envL [(0, T.ro ((Pt eSPresentation) x0)), (1, T.ro ((Pt eSModule) x1)), (2, T.ro (lM x2)), (6, T.ptr (T.agg [L 1 I [], L 1 lV [], L 1 lM []])), (7, I (x0.Orders.length : Int)), (9, T.ptr (T.agg [L 1 I r4.Orders, L 1 lV r11.1, L 1 lM r20.1])), (10, I r20.2), (13, I s11.2.2), (65, I (x0.Orders.length : Int)), (66, I s11.2.2)])) (.has ⟨rfl, rfl, rfl, rfl, rfl, rfl, rfl, rfl, rfl, rfl, rfl, rfl, rfl, trivial⟩) (fun s12 x h => ?_) hr20 (fun e E hq => ?_)
    ·refine sR ?_
     refine a_lss ?_
     refine rN ?_
     refine CW.seq ?_
     refine cn h (fun hc h => ?_) (fun hc h => ?_)
     ·refine CW.skip ?_
      refine nA ?_
      refine CW.seq ?_
      refine CW.block ?_
      refine sR ?_
      refine a_mv ?_
      obtain ⟨v13, hv13, h⟩ := bd h
      refine a_ixr ?_
      refine a_ldr ?_
      refine a_as ?_
      refine a_as ?_
      refine rN ?_
      refine CW.seq ?_
      obtain ⟨v14, hv14, h⟩ := bd h
      obtain ⟨v15, hv15, h⟩ := bd h
      obtain ⟨r16, hr16, h⟩ := bd h
      obtain ⟨v17, hv17, h⟩ := bd h
      refine CW.dk ?_
      refine d_fa [(9, _)] ?_
      refine d_ld [(82, _), (9, _)] ?_
      refine d_mv [(13, _)] ?_
      refine d_ix [(83, _), (9, _), (84, _)] ?_
      refine d_ld [(85, _), (9, _)] ?_
      refine d_mv [(14, _)] ?_
      refine d_mv [(15, _)] ?_
      refine d_mv [(2, _)] ?_
      refine d_mv [(10, _)] ?_
      refine d_ixr [(89, _), (90, _)] ?_
      refine d_ldr [(91, _)] ?_
      refine dG [(88, _), (92, _)] [([(93, some (L 1 (Ro lV) [v13, v15]))], [(93, 0)])] ⟨rfl, rfl, trivial⟩ (fun E h => IxOk.opE (x_bs elt_23 [.tmp 88, .tmp 92] [.slot 88 (T.ro (lV v13)), .slot 92 (T.ro (lV v15))] [v13, v15] (Ro lV) ⟨.slot _ _, .slot _ _, trivial⟩ (pkS h.1 (clean_of trivial) rfl (pkS h.2.1 (clean_of trivial) rfl pkN)) rfl rfl) rfl) ?_
      refine dC [(93, _)] Try.call73 (t_slices_Concat_int64_int64 _ _ hr16) ?_
      refine d_ix [(86, _), (9, _), (87, _)] ?_
      refine dG [(95, _), (9, _), (94, _)] [([(9, some (T.ptr (T.agg [L 1 I r4.Orders, L 1 lV r11.1, L 1 lM (s12.1.set s11.2.2.toNat (v14.set s12.2.2.toNat r16))]))), (94, some (T.same 9 [s12.2.2.toNat, s11.2.2.toNat, 2, 0]))], [(9, 4), (94, 1)])] ⟨rfl, rfl, rfl, trivial⟩ (fun E h => IxOk.opE (x_st inf_22 rfl h.1 h.2.1 (getp (geta rfl (getc hv14 (getc hv17 rfl)))) (setp (seta rfl (setc hv14 (setc hv17 rfl)))) h.2.2.1 (clean_of (cleanL (Enc.clean (f := I)))) rfl) rfl) ?_
      refine dNA mixedP ?_
      refine nA ?_
      refine CW.region ?_
      refine a_mv ?_
      obtain ⟨v18, hv18, h⟩ := bd h
      refine a_add ?_
      refine a_as ?_
      refine RW.nil ?_
      refine nB ?_
      refine nA ?_
      refine CW.to [(0, T.ro ((Pt eSPresentation) x0)), (1, T.ro ((Pt eSModule) x1)), (2, T.ro (lM x2)), (6, T.ptr (T.agg [L 1 I [], L 1 lV [], L 1 lM []])), (7, I (x0.Orders.length : Int)), (9, T.ptr (T.agg [L 1 I r4.Orders, L 1 lV r11.1, L 1 lM (s12.1.set s11.2.2.toNat (v14.set s12.2.2.toNat r16))])), (10, I v18), (13, I s11.2.2), (65, I (x0.Orders.length : Int)), (66, I s11.2.2), (75, T.ro (lM v12)), (76, I (v12.length : Int)), (77, I s12.2.2)] ⟨rfl, rfl, rfl, rfl, rfl, rfl, rfl, rfl, rfl, rfl, rfl, rfl, rfl, trivial⟩ ?_
      refine CW.region ?_
      obtain ⟨v19, hv19, h⟩ := bd h
      refine a_add ?_
      refine a_mv ?_
      refine RW.nil ?_
      exact eN h
     ·refine CW.exit ?_
      refine xA ?_
      exact eX h
    ·obtain ⟨rfl, hg⟩ := hq
     refine xB ?_
     refine nA ?_
     refine CW.ghost hg ?_
     refine sR ?_
     refine a_mv ?_
     refine a_nilc ?_
     refine a_far ?_
     refine a_ldr ?_
     refine a_mv ?_
     obtain ⟨v21, hv21, h⟩ := bd h
     refine a_ixr ?_
     refine a_ldr ?_
     refine a_lenr ?_
     refine a_mv ?_
     refine rN ?_
     refine CW.block ?_
     obtain ⟨r30, hr30, h⟩ := bd h
     refine CW.lp (s := (r20.1, 0)) (l3_impl_extension x0 s11 v21) (fun s14 : (List (List (List Int))) × Int => envL [(0, T.ro ((Pt eSPresentation) x0)), (1, T.ro ((Pt eSModule) x1)), (2, T.ro (lM x2)), (6, T.ptr (T.agg [L 1 I [], L 1 lV [], L 1 lM []])), (7, I (x0.Orders.length : Int)), (9, T.ptr (T.agg [L 1 I r4.Orders, L 1 lV r11.1, L 1 lM s14.1])), (10, I r20.2), (13, I s11.2.2), (65, I (x0.Orders.length : Int)), (66, I s11.2.2), (105, T.ro (lM v21)), (106, I (v21.length : Int)), (107, I s14.2)]) (fun (r30 : (List (List (List Int)))) e E => e = .exit 6 ∧ Ghost ⟨St, W, w0, Try.f109.ntmps⟩ E (envL [(0, T.ro ((Pt eSPresentation) x0)), (1, T.ro ((Pt eSModule) x1)), (2, T.ro (lM x2)), (6, T.ptr (T.agg [L 1 I [], L 1 lV [], L 1 lM []])), (7, I (x0.Orders.length : Int)), (9, T.ptr (T.agg [L 1 I r4.Orders, L 1 lV r11.1, L 1 lM r30])), (10, I r20.2), (65, I (x0.Orders.length : Int)), (66, I s11.2.2)])) (.has ⟨rfl, rfl, rfl, rfl, rfl, rfl, rfl, rfl, rfl, rfl, rfl, rfl, rfl, trivial⟩) (fun s14 x h => ?_) hr30 (fun e E hq => ?_)
     ·refine sR ?_
      refine a_lss ?_
      refine rN ?_
      refine CW.seq ?_
      refine cn h (fun hc h => ?_) (fun hc h => ?_)
      ·refine CW.skip ?_
       refine nA ?_
       refine CW.seq ?_
       refine CW.block ?_
       refine sR ?_
       refine a_mv ?_
       obtain ⟨v22, hv22, h⟩ := bd h
       refine a_ixr ?_
       refine a_ldr ?_
       refine a_as ?_
       refine a_as ?_
       refine rN ?_
       obtain ⟨v23, hv23, h⟩ := bd h
       obtain ⟨v24, hv24, h⟩ := bd h
       obtain ⟨v25, hv25, h⟩ := bd h
       obtain ⟨v26, hv26, h⟩ := bd h
       obtain ⟨r27, hr27, h⟩ := bd h
       obtain ⟨v28, hv28, h⟩ := bd h
       refine CW.dk ?_
       refine d_fa [(9, _)] ?_
       refine d_ld [(112, _), (9, _)] ?_
       refine d_mv [(13, _)] ?_
       refine d_ix [(113, _), (9, _), (114, _)] ?_
       refine d_ld [(115, _), (9, _)] ?_
       refine d_mv [(7, _)] ?_
       refine d_sub [(117, _)] ?_
       refine d_mv [(13, _)] ?_
       refine d_sub [(118, _), (119, _)] ?_
       refine d_mv [(16, _)] ?_
       refine d_add [(120, _), (121, _)] ?_
       refine d_mv [(17, _)] ?_
       refine d_mv [(7, _)] ?_
       refine dC [(123, _), (124, _)] Try.call37 (t_impl_padded _ _ _ _ hr27) ?_
       refine d_ix [(116, _), (9, _), (122, _)] ?_
       refine dG [(126, _), (9, _), (125, _)] [([(9, some (T.ptr (T.agg [L 1 I r4.Orders, L 1 lV r11.1, L 1 lM (s14.1.set s11.2.2.toNat (v23.set v26.toNat r27))]))), (125, some (T.same 9 [v26.toNat, s11.2.2.toNat, 2, 0]))], [(9, 4), (125, 1)])] ⟨rfl, rfl, rfl, trivial⟩ (fun E h => IxOk.opE (x_st inf_22 rfl h.1 h.2.1 (getp (geta rfl (getc hv23 (getc hv28 rfl)))) (setp (seta rfl (setc hv23 (setc hv28 rfl)))) h.2.2.1 (clean_of (cleanL (Enc.clean (f := I)))) rfl) rfl) ?_
       refine dNA mixedP ?_
       refine nB ?_
       refine nA ?_
       refine CW.region ?_
       obtain ⟨v29, hv29, h⟩ := bd h
       refine a_add ?_
       refine a_mv ?_
       refine RW.nil ?_
       exact eN h
      ·refine CW.exit ?_
       refine xA ?_
       exact eX h
     ·obtain ⟨rfl, hg⟩ := hq
      refine xB ?_
      refine nB ?_
      refine nA ?_
      refine CW.ghost hg ?_
      refine CW.region ?_
      obtain ⟨v31, hv31, h⟩ := bd h
      refine a_add ?_
      refine a_mv ?_
      refine RW.nil ?_
      exact eN h
   ·refine CW.exit ?_
    refine xA ?_
    exact eX h
  ·obtain ⟨rfl, hg⟩ := hq
   refine xB ?_
   refine nA ?_
   refine CW.ghost hg ?_
   refine sR ?_
   refine a_ldp ?_
   refine RW.ghost (Ghost.trf 129 [0] 9 [0, 0] _ _ rfl rfl rfl rfl rfl (clean_of (cleanL (Enc.clean (f := I)))) rfl) ?_
   refine RW.ghost (Ghost.trf 129 [1] 9 [1, 0] _ _ rfl rfl rfl rfl rfl (clean_of (cleanL (Enc.clean (f := lV)))) rfl) ?_
   refine RW.ghost (Ghost.trf 129 [2] 9 [2, 0] _ _ rfl rfl rfl rfl rfl (clean_of (cleanL (Enc.clean (f := lM)))) rfl) ?_
   refine oP (x_stp inf_34 rfl (locB rfl rfl) rfl rfl rfl rfl (clean_of (cleanA ⟨(cleanL (Enc.clean (f := I))), (cleanL (Enc.clean (f := lV))), (cleanL (Enc.clean (f := lM))), trivial⟩)) rfl) ?_
   refine rN ?_
   refine CW.ret ?_
   obtain rfl := sI h
   exact ⟨_, Ghost.refl, ⟨.inl rfl, [(6, [0], T.agg [L 1 I r4.Orders, L 1 lV r11.1, L 1 lM r32])], ⟨⟨rfl, rfl, rfl, (var_34.h _ rfl rfl).h⟩, trivial⟩, rfl, (by simp), (by simp), trivial⟩⟩
theorem t_impl_validExtension (x0 : SPresentation) (x1 : SModule) (x2 : List (List Int)) (r : SPresentation × Int) (h : f_impl_validExtension x0 x1 x2 = some r) : FnC Try.prog 69 [T.ro ((Pt eSPresentation) x0), T.ro ((Pt eSModule) x1), T.ro (lM x2)] [eSPresentation r.1, I r.2] [] := by
 refine fB Try.func69 (fun St W w0 v => ?_)
 refine sR ?_
 refine a_alloc ?_
 refine a_as ?_
 refine rN ?_
 refine sR ?_
 refine a_mv ?_
 refine a_mv ?_
 refine a_mv ?_
 obtain ⟨r1, hr1, h⟩ := bd h
 refine cA Try.call109 (t_impl_extension _ _ _ _ hr1) ?_
 refine a_alloc ?_
 refine oP (x_stp inf_34 rfl (locB rfl rfl) rfl rfl rfl rfl (clean_of (cleanA ⟨(cleanL (Enc.clean (f := I))), (cleanL (Enc.clean (f := lV))), (cleanL (Enc.clean (f := lM))), trivial⟩)) rfl) ?_
 refine rN ?_
 refine CW.seq ?_
 refine sR ?_
 refine a_ldp ?_
 obtain ⟨r2, hr2, h⟩ := bd h
 refine oP (x_call (xs := [.tmp 13]) Try.call82 (t_impl_IsPresentation _ _ hr2) ⟨(agC _ rfl (cloA (cloC (cloS rfl rfl inferInstance) (cloC (cloS rfl rfl inferInstance) (cloC (cloS rfl rfl inferInstance) cloN)))) rfl), trivial⟩ (resC (f := B) inferInstance resN) rfl) ?_
 refine a_not ?_
 refine rN ?_
 refine cn h (fun hc h => ?_) (fun hc h => ?_)
 ·refine sR ?_
  refine oP (x_build bld_34 [] [] [.zero (L 1 I []), .zero (L 1 lV []), .zero (L 1 lM [])] (pkZ rfl (pkZ rfl (pkZ rfl pkN))) bqN rfl) ?_
  refine oP (x_stp inf_34 rfl (locB rfl rfl) rfl rfl rfl rfl (clean_of (cleanA ⟨trivial, trivial, trivial, trivial⟩)) rfl) ?_
  refine a_as ?_
  refine rN ?_
  refine CW.ret ?_
  refine rA ?_
  obtain rfl := sI h
  exact ⟨_, Ghost.refl, ⟨.inl rfl, [(6, [0], T.agg [L 1 I [], L 1 lV [], L 1 lM []]), (7, [], I 3)], ⟨⟨rfl, rfl, rfl, (var_34.h _ rfl rfl).h⟩, ⟨rfl, rfl, rfl, rfl⟩, trivial⟩, rfl, (by simp), (by simp), trivial⟩⟩
 ·refine CW.skip ?_
  refine nA ?_
  refine sR ?_
  refine a_ldp ?_
  refine RW.ghost (Ghost.trf 17 [0] 8 [0, 0] _ _ rfl rfl rfl rfl rfl (clean_of (cleanL (Enc.clean (f := I)))) rfl) ?_
  refine RW.ghost (Ghost.trf 17 [1] 8 [1, 0] _ _ rfl rfl rfl rfl rfl (clean_of (cleanL (Enc.clean (f := lV)))) rfl) ?_
  refine RW.ghost (Ghost.trf 17 [2] 8 [2, 0] _ _ rfl rfl rfl rfl rfl (clean_of (cleanL (Enc.clean (f := lM)))) rfl) ?_
  refine oP (x_stp inf_34 rfl (locB rfl rfl) rfl rfl rfl rfl (clean_of (cleanA ⟨(cleanL (Enc.clean (f := I))), (cleanL (Enc.clean (f := lV))), (cleanL (Enc.clean (f := lM))), trivial⟩)) rfl) ?_
  refine a_as ?_
  refine rN ?_
  refine CW.ret ?_
  obtain rfl := sI h
  exact ⟨_, Ghost.refl, ⟨.inl rfl, [(6, [0], eSPresentation r1), (7, [], I 0)], ⟨⟨rfl, rfl, rfl, (var_34.h _ rfl rfl).h⟩, ⟨rfl, rfl, rfl, rfl⟩, trivial⟩, rfl, (by simp), (by simp), trivial⟩⟩
theorem t_impl_SplitExtension (x0 : SPresentation) (x1 : SModule) (r : SPresentation × Int) (h : f_impl_SplitExtension x0 x1 = some r) : FnC Try.prog 27 [qPresentation x0, qModule x1] [eSPresentation r.1, I r.2] [] := by
 refine fB Try.func27 (fun St W w0 v => ?_)
 refine sR ?_
 refine a_box ?_
 refine a_box ?_
 refine a_alloc ?_
 refine a_as ?_
 refine rN ?_
 refine CW.seq ?_
 refine sR ?_
 obtain ⟨r1, hr1, h⟩ := bd h
 refine oP (x_call (xs := [.tmp 2, .tmp 3]) Try.call58 (t_impl_isModule _ _ _ hr1) ⟨(agC _ rfl (cloP rfl) rfl), ⟨(agC _ rfl (cloP rfl) rfl), trivial⟩⟩ (resC (f := B) inferInstance resN) rfl) ?_
 refine a_not ?_
 refine rN ?_
 refine cn h (fun hc h => ?_) (fun hc h => ?_)
 ·refine sR ?_
  refine oP (x_build bld_34 [] [] [.zero (L 1 I []), .zero (L 1 lV []), .zero (L 1 lM [])] (pkZ rfl (pkZ rfl (pkZ rfl pkN))) bqN rfl) ?_
  refine oP (x_stp inf_34 rfl (locB rfl rfl) rfl rfl rfl rfl (clean_of (cleanA ⟨trivial, trivial, trivial, trivial⟩)) rfl) ?_
  refine a_as ?_
  refine rN ?_
  refine CW.ret ?_
  refine rA ?_
  obtain rfl := sI h
  exact ⟨_, Ghost.refl, ⟨.inl rfl, [(4, [0], T.agg [L 1 I [], L 1 lV [], L 1 lM []]), (5, [], I 1)], ⟨⟨rfl, rfl, rfl, (var_34.h _ rfl rfl).h⟩, ⟨rfl, rfl, rfl, rfl⟩, trivial⟩, rfl, (by simp), (by simp), trivial⟩⟩
 ·refine CW.skip ?_
  refine nA ?_
  refine CW.seq ?_
  obtain ⟨r2, hr2, h⟩ := bd h
  obtain ⟨v3, hv3, h⟩ := bd h
  obtain ⟨m4, hm4, h⟩ := bd h
  obtain ⟨r5, hr5, h⟩ := bd h
  obtain ⟨r6, hr6, h⟩ := bd h
  refine CW.dk ?_
  refine dG [(2, _)] [([(9, some (I r2))], [(9, 0)])] ⟨rfl, trivial⟩ (fun E h => IxOk.opE (x_call (xs := [.tmp 2]) Try.call71 (t_impl_relationCount _ _ hr2) ⟨(agC _ h.1 (cloP rfl) rfl), trivial⟩ (resC (f := I) inferInstance resN) rfl) rfl) ?_
  refine d_fa [(3, _)] ?_
  refine d_ld [(10, _), (3, _)] ?_
  refine d_mul [(9, _), (11, _)] ?_
  refine dG [(12, _)] [([(13, some (L 1 I (List.replicate m4 (0 : Int))))], [(13, 0)])] ⟨rfl, trivial⟩ (fun E h => IxOk.opE (x_makeL (f := I) (z := 0) elt_22 (rfl) hm4 h.1 h.1 rfl) rfl) ?_
  refine d_fa [(3, _)] ?_
  refine d_ld [(14, _), (3, _)] ?_
  refine dC [(13, _), (15, _)] Try.call70 (t_impl_split _ _ _ hr5) ?_
  refine dG [(2, _), (3, _), (16, _)] [([(17, some (T.tup [eSPresentation r6.1, I r6.2]))], [(17, 0)])] ⟨rfl, rfl, rfl, trivial⟩ (fun E h => IxOk.opE (x_call (xs := [.tmp 2, .tmp 3, .tmp 16]) Try.call69 (t_impl_validExtension _ _ _ _ hr6) ⟨(agC _ h.1 (cloP rfl) rfl), ⟨(agC _ h.2.1 (cloP rfl) rfl), ⟨(agC _ h.2.2.1 (cloO inferInstance) rfl), trivial⟩⟩⟩ (resC (f := eSPresentation) inferInstance (resC (f := I) inferInstance resN)) rfl) rfl) ?_
  refine d_ext [(17, _)] ?_
  refine d_ext [(17, _)] ?_
  refine dG [(18, T.agg [T.same 17 [0, 0], T.same 17 [1, 0], T.same 17 [2, 0]]), (17, T.tup [eSPresentation r6.1, I r6.2]), (4, T.ptr (T.agg [L 1 I [], L 1 lV [], L 1 lM []]))] [([(18, some (T.agg [L 1 I r6.1.Orders, T.same 17 [1, 0], T.same 17 [2, 0]])), (17, some (T.tup [T.agg [T.any, L 1 lV r6.1.Powers, L 1 lM r6.1.Conjugates], I r6.2]))], [(18, 2), (17, 3)]), ([(18, some (T.agg [L 1 I r6.1.Orders, L 1 lV r6.1.Powers, T.same 17 [2, 0]])), (17, some (T.tup [T.agg [T.any, T.any, L 1 lM r6.1.Conjugates], I r6.2]))], [(18, 2), (17, 3)]), ([(18, some (eSPresentation r6.1)), (17, some (T.tup [T.agg [T.any, T.any, T.any], I r6.2]))], [(18, 2), (17, 3)]), ([(4, some (T.ptr (eSPresentation r6.1))), (18, some (T.agg [T.same 4 [0, 0], T.same 4 [1, 0], T.same 4 [2, 0]]))], [(4, 1), (18, 1)])] ⟨rfl, rfl, rfl, trivial⟩ (fun E h => IxOk.gh (Ghost.trf 18 [0] 17 [0, 0] _ _ h.1 rfl h.2.1 rfl rfl (clean_of (cleanL (Enc.clean (f := I)))) rfl) <| IxOk.gh (Ghost.trf 18 [1] 17 [1, 0] _ _ rfl rfl rfl rfl rfl (clean_of (cleanL (Enc.clean (f := lV)))) rfl) <| IxOk.gh (Ghost.trf 18 [2] 17 [2, 0] _ _ rfl rfl rfl rfl rfl (clean_of (cleanL (Enc.clean (f := lM)))) rfl) <| IxOk.opE (x_stp inf_34 rfl (locB (keepE (keepE (keepE h.2.2.1))) rfl) (keepE (keepE (keepE h.2.2.1))) rfl rfl rfl (clean_of (cleanA ⟨(cleanL (Enc.clean (f := I))), (cleanL (Enc.clean (f := lV))), (cleanL (Enc.clean (f := lM))), trivial⟩)) rfl) rfl) ?_
  refine d_as [(19, _)] ?_
  refine dNA mixedP ?_
  refine nA ?_
  refine CW.ret ?_
  obtain rfl := sI h
  exact ⟨_, Ghost.refl, ⟨.inl rfl, [(4, [0], eSPresentation r6.1), (5, [], I r6.2)], ⟨⟨rfl, rfl, rfl, (var_34.h _ rfl rfl).h⟩, ⟨rfl, rfl, rfl, rfl⟩, trivial⟩, rfl, (by simp), (by simp), trivial⟩⟩
theorem t_laws_heldPresentation (x0 : SPresentation) (x1 : Int) (r : Int) (h : f_laws_heldPresentation x0 x1 = some r) : FnC Try.prog 21 [qPresentation x0, I x1] [I r] [] := by
 refine fB Try.func21 (fun St W w0 v => ?_)
 refine sR ?_
 refine a_box ?_
 refine a_as ?_
 refine rN ?_
 refine sR ?_
 refine a_fa ?_
 refine a_ld ?_
 refine a_mv ?_
 obtain ⟨r1, hr1, h⟩ := bd h
 refine cA Try.call51 (t_laws_heldInt64S _ _ _ hr1) ?_
 refine a_as ?_
 refine rN ?_
 refine CW.seq ?_
 refine sR ?_
 refine a_mv ?_
 refine a_lss ?_
 refine rN ?_
 refine cn h (fun hc h => ?_) (fun hc h => ?_)
 ·refine sR ?_
  refine a_as ?_
  refine rN ?_
  refine CW.ret ?_
  refine rA ?_
  obtain rfl := sI h
  exact rT
 ·refine CW.skip ?_
  refine nA ?_
  refine sR ?_
  refine a_fa ?_
  refine a_ld ?_
  refine a_mv ?_
  obtain ⟨r2, hr2, h⟩ := bd h
  refine cA Try.call52 (t_laws_heldInt64SS _ _ _ hr2) ?_
  refine a_as ?_
  refine rN ?_
  refine CW.seq ?_
  refine sR ?_
  refine a_mv ?_
  refine a_lss ?_
  refine rN ?_
  refine cn h (fun hc h => ?_) (fun hc h => ?_)
  ·refine sR ?_
   refine a_as ?_
   refine rN ?_
   refine CW.ret ?_
   refine rA ?_
   obtain rfl := sI h
   exact rT
  ·refine CW.skip ?_
   refine nA ?_
   refine sR ?_
   refine a_fa ?_
   refine a_ld ?_
   refine a_mv ?_
   obtain ⟨r3, hr3, h⟩ := bd h
   refine cA Try.call44 (t_laws_heldInt64SSS _ _ _ hr3) ?_
   refine a_as ?_
   refine rN ?_
   refine CW.seq ?_
   refine sR ?_
   refine a_mv ?_
   refine a_lss ?_
   refine rN ?_
   refine cn h (fun hc h => ?_) (fun hc h => ?_)
   ·refine sR ?_
    refine a_as ?_
    refine rN ?_
    refine CW.ret ?_
    refine rA ?_
    obtain rfl := sI h
    exact rT
   ·refine CW.skip ?_
    refine nA ?_
    refine sR ?_
    refine a_mv ?_
    refine a_as ?_
    refine rN ?_
    refine CW.ret ?_
    obtain rfl := sI h
    exact rT
theorem t_laws_FnExactSplitExtension (x0 : SPresentation) (x1 : SModule) (r : Bool) (h : f_laws_FnExactSplitExtension x0 x1 = some r) : FnC Try.prog 7 [qPresentation x0, qModule x1] [B r] [] := by
 refine fB Try.func7 (fun St W w0 v => ?_)
 refine sR ?_
 refine a_box ?_
 refine a_box ?_
 refine a_as ?_
 refine rN ?_
 refine sR ?_
 refine a_as ?_
 refine rN ?_
 refine sR ?_
 refine a_ldp ?_
 refine a_mv ?_
 obtain ⟨r1, hr1, h⟩ := bd h
 refine cA Try.call8 (t_laws_szPresentation _ _ _ hr1) ?_
 refine a_as ?_
 refine rN ?_
 refine CW.seq ?_
 refine sR ?_
 refine a_mv ?_
 refine a_lss ?_
 refine rN ?_
 refine cn h (fun hc h => ?_) (fun hc h => ?_)
 ·refine sR ?_
  refine a_as ?_
  refine rN ?_
  refine CW.ret ?_
  refine rA ?_
  obtain rfl := sI h
  exact rT
 ·refine CW.skip ?_
  refine nA ?_
  refine sR ?_
  refine a_ldp ?_
  refine a_mv ?_
  obtain ⟨r2, hr2, h⟩ := bd h
  refine cA Try.call9 (t_laws_szModule _ _ _ hr2) ?_
  refine a_as ?_
  refine rN ?_
  refine CW.seq ?_
  refine sR ?_
  refine a_mv ?_
  refine a_lss ?_
  refine rN ?_
  refine cn h (fun hc h => ?_) (fun hc h => ?_)
  ·refine sR ?_
   refine a_as ?_
   refine rN ?_
   refine CW.ret ?_
   refine rA ?_
   obtain rfl := sI h
   exact rT
  ·refine CW.skip ?_
   refine nA ?_
   refine CW.seq ?_
   obtain ⟨r3, hr3, h⟩ := bd h
   obtain ⟨r4, hr4, h⟩ := bd h
   obtain ⟨r5, hr5, h⟩ := bd h
   refine CW.dk ?_
   refine d_ldp [(2, _)] ?_
   refine dG [(28, _)] [([(29, some (eSPresentation r3))], [(29, 0)])] ⟨rfl, trivial⟩ (fun E h => IxOk.opE (x_call (xs := [.tmp 28]) Try.call11 (t_laws_toPresentation _ _ hr3) ⟨(agC _ h.1 rfl rfl), trivial⟩ (resC (f := eSPresentation) inferInstance resN) rfl) rfl) ?_
   refine d_ldp [(3, _)] ?_
   refine dG [(30, _)] [([(31, some (eSModule r4))], [(31, 0)])] ⟨rfl, trivial⟩ (fun E h => IxOk.opE (x_call (xs := [.tmp 30]) Try.call12 (t_laws_toModule _ _ hr4) ⟨(agC _ h.1 rfl rfl), trivial⟩ (resC (f := eSModule) inferInstance resN) rfl) rfl) ?_
   refine dG [(29, _), (31, _)] [([(32, some (T.tup [eSPresentation r5.1, I r5.2]))], [(32, 0)])] ⟨rfl, rfl, trivial⟩ (fun E h => IxOk.opE (x_call (xs := [.tmp 29, .tmp 31]) Try.call26 (t_spec_SplitExtension _ _ _ hr5) ⟨(agC _ h.1 (cloA (cloC (cloO inferInstance) (cloC (cloO inferInstance) (cloC (cloO inferInstance) cloN)))) rfl), ⟨(agC _ h.2.1 (cloA (cloC rfl (cloC rfl (cloC (cloO inferInstance) cloN)))) rfl), trivial⟩⟩ (resC (f := eSPresentation) inferInstance (resC (f := I) inferInstance resN)) rfl) rfl) ?_
   refine d_mvT [(32, _)] ?_
   refine d_ext [(27, _)] ?_
   refine d_ext [(27, _)] ?_
   refine d_alloc [] ?_
   refine dG [(33, T.agg [T.same 32 [0, 0], T.same 32 [1, 0], T.same 32 [2, 0]]), (32, T.tup [eSPresentation r5.1, I r5.2]), (6, T.ptr (T.agg [L 1 I [], L 1 lV [], L 1 lM []]))] [([(33, some (T.agg [L 1 I r5.1.Orders, T.same 32 [1, 0], T.same 32 [2, 0]])), (32, some (T.tup [T.agg [T.any, L 1 lV r5.1.Powers, L 1 lM r5.1.Conjugates], I r5.2]))], [(33, 2), (32, 3)]), ([(33, some (T.agg [L 1 I r5.1.Orders, L 1 lV r5.1.Powers, T.same 32 [2, 0]])), (32, some (T.tup [T.agg [T.any, T.any, L 1 lM r5.1.Conjugates], I r5.2]))], [(33, 2), (32, 3)]), ([(33, some (eSPresentation r5.1)), (32, some (T.tup [T.agg [T.any, T.any, T.any], I r5.2]))], [(33, 2), (32, 3)]), ([(6, some (T.ptr (eSPresentation r5.1))), (33, some (T.agg [T.same 6 [0, 0], T.same 6 [1, 0], T.same 6 [2, 0]]))], [(6, 1), (33, 1)])] ⟨rfl, rfl, rfl, trivial⟩ (fun E h => IxOk.gh (Ghost.trf 33 [0] 32 [0, 0] _ _ h.1 rfl h.2.1 rfl rfl (clean_of (cleanL (Enc.clean (f := I)))) rfl) <| IxOk.gh (Ghost.trf 33 [1] 32 [1, 0] _ _ rfl rfl rfl rfl rfl (clean_of (cleanL (Enc.clean (f := lV)))) rfl) <| IxOk.gh (Ghost.trf 33 [2] 32 [2, 0] _ _ rfl rfl rfl rfl rfl (clean_of (cleanL (Enc.clean (f := lM)))) rfl) <| IxOk.opE (x_stp inf_34 rfl (locB (keepE (keepE (keepE h.2.2.1))) rfl) (keepE (keepE (keepE h.2.2.1))) rfl rfl rfl (clean_of (cleanA ⟨(cleanL (Enc.clean (f := I))), (cleanL (Enc.clean (f := lV))), (cleanL (Enc.clean (f := lM))), trivial⟩)) rfl) rfl) ?_
   refine d_as [(34, _)] ?_
   refine dNA mixedP ?_
   refine nA ?_
   refine CW.seq ?_
   refine CW.to [(2, T.ptr (qPresentation x0)), (3, T.ptr (qModule x1)), (6, T.ptr (eSPresentation r5.1)), (7, I r5.2)] ⟨rfl, rfl, rfl, rfl, trivial⟩ ?_
   refine CW.region ?_
   refine a_ldp ?_
   obtain ⟨r6, hr6, h⟩ := bd h
   refine oP (x_call (xs := [.tmp 35]) Try.call11 (t_laws_toPresentation _ _ hr6) ⟨(agC _ rfl rfl rfl), trivial⟩ (resC (f := eSPresentation) inferInstance resN) rfl) ?_
   refine a_alloc ?_
   refine oP (x_stp inf_34 rfl (locB rfl rfl) rfl rfl rfl rfl (clean_of (cleanA ⟨(cleanL (Enc.clean (f := I))), (cleanL (Enc.clean (f := lV))), (cleanL (Enc.clean (f := lM))), trivial⟩)) rfl) ?_
   refine rN ?_
   refine sR ?_
   refine a_ldp ?_
   obtain ⟨r7, hr7, h⟩ := bd h
   refine oP (x_call (xs := [.tmp 37]) Try.call12 (t_laws_toModule _ _ hr7) ⟨(agC _ rfl rfl rfl), trivial⟩ (resC (f := eSModule) inferInstance resN) rfl) ?_
   refine a_alloc ?_
   refine oP (x_stp inf_31 rfl (locB rfl rfl) rfl rfl rfl rfl (clean_of (cleanA ⟨(Enc.clean (f := I) _), (Enc.clean (f := I) _), (cleanL (Enc.clean (f := lM))), trivial⟩)) rfl) ?_
   refine rN ?_
   refine sR ?_
   refine a_ldp ?_
   refine a_ldp ?_
   obtain ⟨r8, hr8, h⟩ := bd h
   refine oP (x_call (xs := [.tmp 40, .tmp 41]) Try.call27 (t_impl_SplitExtension _ _ _ hr8) ⟨(agC _ rfl (cloA (cloC (cloS rfl rfl inferInstance) (cloC (cloS rfl rfl inferInstance) (cloC (cloS rfl rfl inferInstance) cloN)))) rfl), ⟨(agC _ rfl (cloA (cloC rfl (cloC rfl (cloC (cloS rfl rfl inferInstance) cloN)))) rfl), trivial⟩⟩ (resC (f := eSPresentation) inferInstance (resC (f := I) inferInstance resN)) rfl) ?_
   refine a_mvT ?_
   refine a_ext ?_
   refine a_ext ?_
   refine a_alloc ?_
   refine RW.ghost (Ghost.trf 43 [0] 42 [0, 0] _ _ rfl rfl rfl rfl rfl (clean_of (cleanL (Enc.clean (f := I)))) rfl) ?_
   refine RW.ghost (Ghost.trf 43 [1] 42 [1, 0] _ _ rfl rfl rfl rfl rfl (clean_of (cleanL (Enc.clean (f := lV)))) rfl) ?_
   refine RW.ghost (Ghost.trf 43 [2] 42 [2, 0] _ _ rfl rfl rfl rfl rfl (clean_of (cleanL (Enc.clean (f := lM)))) rfl) ?_
   refine oP (x_stp inf_34 rfl (locB rfl rfl) rfl rfl rfl rfl (clean_of (cleanA ⟨(cleanL (Enc.clean (f := I))), (cleanL (Enc.clean (f := lV))), (cleanL (Enc.clean (f := lM))), trivial⟩)) rfl) ?_
   refine a_as ?_
   refine rN ?_
   refine CW.seq ?_
   refine sR ?_
   refine a_ldp ?_
   refine a_ldp ?_
   obtain ⟨r9, hr9, h⟩ := bd h
   refine oP (x_call (xs := [.tmp 45, .tmp 46]) Try.call15 (t_laws_eqPresentation _ _ _ hr9) ⟨(agC _ rfl (cloA (cloC (cloS rfl rfl inferInstance) (cloC (cloS rfl rfl inferInstance) (cloC (cloS rfl rfl inferInstance) cloN)))) rfl), ⟨(agC _ rfl (cloA (cloC (cloS rfl rfl inferInstance) (cloC (cloS rfl rfl inferInstance) (cloC (cloS rfl rfl inferInstance) cloN)))) rfl), trivial⟩⟩ (resC (f := B) inferInstance resN) rfl) ?_
   refine a_not ?_
   refine a_mv ?_
   refine RW.cases 49 _ rfl (fun hc => ?_) (fun hc => ?_)
   ·have h := cT hc h
    refine sk2 ?_
    refine sk2 ?_
    refine sk2 ?_
    refine a_pick ?_
    refine rN ?_
    refine CW.condT rfl ?_
    refine CW.seq ?_
    refine CW.to [] trivial ?_
    refine CW.region ?_
    refine a_as ?_
    refine rN ?_
    refine CW.ret ?_
    refine rA ?_
    obtain rfl := sI h
    exact rT
   ·have h := cF hc h
    refine g_mv ?_
    refine g_mv ?_
    refine g_neq ?_
    refine a_pick ?_
    refine rN ?_
    refine cn h (fun hc h => ?_) (fun hc h => ?_)
    ·refine CW.seq ?_
     refine CW.to [] trivial ?_
     refine CW.region ?_
     refine a_as ?_
     refine rN ?_
     refine CW.ret ?_
     refine rA ?_
     obtain rfl := sI h
     exact rT
    ·refine CW.skip ?_
     refine nA ?_
     refine CW.seq ?_
     refine CW.seq ?_
     refine CW.to [(2, T.ptr (qPresentation x0)), (3, T.ptr (qModule x1)), (6, T.ptr (eSPresentation r5.1)), (7, I r5.2), (8, T.ptr (eSPresentation r6)), (9, T.ptr (eSModule r7)), (10, T.ptr (eSPresentation r8.1)), (11, I r8.2)] ⟨rfl, rfl, rfl, rfl, rfl, rfl, rfl, rfl, trivial⟩ ?_
     obtain ⟨r10, hr10, h⟩ := bd h
     obtain ⟨r11, hr11, h⟩ := bd h
     refine CW.dk ?_
     refine d_ldp [(8, _)] ?_
     refine d_ldp [(2, _)] ?_
     refine dG [(55, _)] [([(56, some (eSPresentation r10))], [(56, 0)])] ⟨rfl, trivial⟩ (fun E h => IxOk.opE (x_call (xs := [.tmp 55]) Try.call11 (t_laws_toPresentation _ _ hr10) ⟨(agC _ h.1 rfl rfl), trivial⟩ (resC (f := eSPresentation) inferInstance resN) rfl) rfl) ?_
     refine dG [(54, _), (8, _), (56, _)] [([(57, some (B r11))], [(57, 0)])] ⟨rfl, rfl, rfl, trivial⟩ (fun E h => IxOk.opE (x_call (xs := [.tmp 54, .tmp 56]) Try.call15 (t_laws_eqPresentation _ _ _ hr11) ⟨(agC _ h.1 (cloA (cloC (cloS h.2.1 rfl inferInstance) (cloC (cloS h.2.1 rfl inferInstance) (cloC (cloS h.2.1 rfl inferInstance) cloN)))) rfl), ⟨(agC _ h.2.2.1 (cloA (cloC (cloO inferInstance) (cloC (cloO inferInstance) (cloC (cloO inferInstance) cloN)))) rfl), trivial⟩⟩ (resC (f := B) inferInstance resN) rfl) rfl) ?_
     refine d_not [(57, _)] ?_
     refine dNA mixedP ?_
     refine nA ?_
     refine cn h (fun hc h => ?_) (fun hc h => ?_)
     ·refine sR ?_
      refine a_as ?_
      refine rN ?_
      refine CW.ret ?_
      refine rA ?_
      obtain rfl := sI h
      exact rT
     ·refine CW.skip ?_
      refine nA ?_
      refine CW.seq ?_
      refine CW.seq ?_
      obtain ⟨r12, hr12, h⟩ := bd h
      obtain ⟨r13, hr13, h⟩ := bd h
      refine CW.dk ?_
      refine d_ldp [(9, _)] ?_
      refine d_ldp [(3, _)] ?_
      refine dG [(60, _)] [([(61, some (eSModule r12))], [(61, 0)])] ⟨rfl, trivial⟩ (fun E h => IxOk.opE (x_call (xs := [.tmp 60]) Try.call12 (t_laws_toModule _ _ hr12) ⟨(agC _ h.1 rfl rfl), trivial⟩ (resC (f := eSModule) inferInstance resN) rfl) rfl) ?_
      refine dG [(59, _), (9, _), (61, _)] [([(62, some (B r13))], [(62, 0)])] ⟨rfl, rfl, rfl, trivial⟩ (fun E h => IxOk.opE (x_call (xs := [.tmp 59, .tmp 61]) Try.call14 (t_laws_eqModule _ _ _ hr13) ⟨(agC _ h.1 (cloA (cloC rfl (cloC rfl (cloC (cloS h.2.1 rfl inferInstance) cloN)))) rfl), ⟨(agC _ h.2.2.1 (cloA (cloC rfl (cloC rfl (cloC (cloO inferInstance) cloN)))) rfl), trivial⟩⟩ (resC (f := B) inferInstance resN) rfl) rfl) ?_
      refine d_not [(62, _)] ?_
      refine dNA mixedP ?_
      refine nA ?_
      refine cn h (fun hc h => ?_) (fun hc h => ?_)
      ·refine sR ?_
       refine a_as ?_
       refine rN ?_
       refine CW.ret ?_
       refine rA ?_
       obtain rfl := sI h
       exact rT
      ·refine CW.skip ?_
       refine nA ?_
       refine sR ?_
       refine a_as ?_
       refine rN ?_
       refine sR ?_
       refine a_ldp ?_
       refine a_mv ?_
       obtain ⟨r14, hr14, h⟩ := bd h
       refine oP (x_callA (xs := [.tmp 64, .tmp 65]) 0 64 8 [(0, [0, 0]), (1, [1, 0]), (2, [2, 0])] 2 Try.call16 (t_laws_markPresentation _ _ _ hr14) (.cons 0 [0, 0] _ _ _ _ _ rfl rfl rfl rfl (clean_of (cleanL (Enc.clean (f := I)))) rfl rfl rfl (.cons 1 [1, 0] _ _ _ _ _ rfl rfl rfl rfl (clean_of (cleanL (Enc.clean (f := lV)))) rfl rfl rfl (.cons 2 [2, 0] _ _ _ _ _ rfl rfl rfl rfl (clean_of (cleanL (Enc.clean (f := lM)))) rfl rfl rfl (.nil _)))) rfl (Enc.clean (f := eSPresentation) _) (Enc.rofree (f := eSPresentation) _) ⟨(agLd rfl (Enc.clean (f := eSPresentation) _) (Enc.rofree (f := eSPresentation) _)), ⟨(agM _ rfl rfl rfl), trivial⟩⟩ (resC (f := I) inferInstance resN) (.cons 0 [0, 0] _ _ _ _ _ _ rfl rfl rfl rfl (clean_of (cleanL (Enc.clean (f := I)))) rfl rfl rfl (.cons 1 [1, 0] _ _ _ _ _ _ rfl rfl rfl rfl (clean_of (cleanL (Enc.clean (f := lV)))) rfl rfl rfl (.cons 2 [2, 0] _ _ _ _ _ _ rfl rfl rfl rfl (clean_of (cleanL (Enc.clean (f := lM)))) rfl rfl rfl (.nil _)))) rfl rfl rfl) ?_
       refine a_as ?_
       refine rN ?_
       refine sR ?_
       refine a_ldp ?_
       refine a_mv ?_
       obtain ⟨r15, hr15, h⟩ := bd h
       refine oP (x_callA (xs := [.tmp 67, .tmp 68]) 0 67 9 [(2, [2, 0])] 2 Try.call17 (t_laws_markModule _ _ _ hr15) (.cons 2 [2, 0] _ _ _ _ _ rfl rfl rfl rfl (clean_of (cleanL (Enc.clean (f := lM)))) rfl rfl rfl (.nil _)) rfl (Enc.clean (f := eSModule) _) (Enc.rofree (f := eSModule) _) ⟨(agLd rfl (Enc.clean (f := eSModule) _) (Enc.rofree (f := eSModule) _)), ⟨(agM _ rfl rfl rfl), trivial⟩⟩ (resC (f := I) inferInstance resN) (.cons 2 [2, 0] _ _ _ _ _ _ rfl rfl rfl rfl (clean_of (cleanL (Enc.clean (f := lM)))) rfl rfl rfl (.nil _)) rfl rfl rfl) ?_
       refine a_as ?_
       refine rN ?_
       refine CW.seq ?_
       refine sR ?_
       refine a_mv ?_
       refine a_lss ?_
       refine a_mv ?_
       refine RW.cases 72 _ rfl (fun hc => ?_) (fun hc => ?_)
       ·have h := cT hc h
        refine sk2 ?_
        refine sk2 ?_
        refine sk2 ?_
        refine sk2 ?_
        refine a_pick ?_
        refine a_mv ?_
        refine sk2 ?_
        refine sk2 ?_
        refine sk2 ?_
        refine a_pick ?_
        refine rN ?_
        refine CW.condT rfl ?_
        refine CW.seq ?_
        refine CW.to [] trivial ?_
        refine CW.region ?_
        refine a_as ?_
        refine rN ?_
        refine CW.ret ?_
        refine rA ?_
        obtain rfl := sI h
        exact rT
       ·have h := cF hc h
        refine g_ldp ?_
        refine g_ldp ?_
        obtain ⟨r16, hr16, h⟩ := bd h
        refine RW.cons (IxOk.guard 2 false 72 (x_call (xs := [.tmp 73, .tmp 74]) Try.call15 (t_laws_eqPresentation _ _ _ hr16) ⟨(agC _ rfl (cloA (cloC (cloS rfl rfl inferInstance) (cloC (cloS rfl rfl inferInstance) (cloC (cloS rfl rfl inferInstance) cloN)))) rfl), ⟨(agC _ rfl (cloA (cloC (cloS rfl rfl inferInstance) (cloC (cloS rfl rfl inferInstance) (cloC (cloS rfl rfl inferInstance) cloN)))) rfl), trivial⟩⟩ (resC (f := B) inferInstance resN) rfl)) ?_
        refine g_not ?_
        refine a_pick ?_
        refine a_mv ?_
        refine RW.cases 78 _ rfl (fun hc => ?_) (fun hc => ?_)
        ·have h := cT hc h
         refine sk2 ?_
         refine sk2 ?_
         refine sk2 ?_
         refine a_pick ?_
         refine rN ?_
         refine CW.condT rfl ?_
         refine CW.seq ?_
         refine CW.to [] trivial ?_
         refine CW.region ?_
         refine a_as ?_
         refine rN ?_
         refine CW.ret ?_
         refine rA ?_
         obtain rfl := sI h
         exact rT
        ·have h := cF hc h
         refine g_mv ?_
         refine g_mv ?_
         refine g_neq ?_
         refine a_pick ?_
         refine rN ?_
         refine cn h (fun hc h => ?_) (fun hc h => ?_)
         ·refine CW.seq ?_
          refine CW.to [] trivial ?_
          refine CW.region ?_
          refine a_as ?_
          refine rN ?_
          refine CW.ret ?_
          refine rA ?_
          obtain rfl := sI h
          exact rT
         ·refine CW.skip ?_
          refine nA ?_
          refine CW.seq ?_
          refine CW.to [(2, T.ptr (qPresentation x0)), (3, T.ptr (qModule x1)), (6, T.ptr (eSPresentation r5.1)), (7, I r5.2), (10, T.ptr (eSPresentation r8.1))] ⟨rfl, rfl, rfl, rfl, rfl, trivial⟩ ?_
          refine CW.region ?_
          refine a_as ?_
          refine rN ?_
          refine sR ?_
          refine a_ldp ?_
          refine a_mv ?_
          obtain ⟨r17, hr17, h⟩ := bd h
          refine oP (x_callA (xs := [.tmp 83, .tmp 84]) 0 83 10 [(0, [0, 0]), (1, [1, 0]), (2, [2, 0])] 2 Try.call16 (t_laws_markPresentation _ _ _ hr17) (.cons 0 [0, 0] _ _ _ _ _ rfl rfl rfl rfl (clean_of (cleanL (Enc.clean (f := I)))) rfl rfl rfl (.cons 1 [1, 0] _ _ _ _ _ rfl rfl rfl rfl (clean_of (cleanL (Enc.clean (f := lV)))) rfl rfl rfl (.cons 2 [2, 0] _ _ _ _ _ rfl rfl rfl rfl (clean_of (cleanL (Enc.clean (f := lM)))) rfl rfl rfl (.nil _)))) rfl (Enc.clean (f := eSPresentation) _) (Enc.rofree (f := eSPresentation) _) ⟨(agLd rfl (Enc.clean (f := eSPresentation) _) (Enc.rofree (f := eSPresentation) _)), ⟨(agM _ rfl rfl rfl), trivial⟩⟩ (resC (f := I) inferInstance resN) (.cons 0 [0, 0] _ _ _ _ _ _ rfl rfl rfl rfl (clean_of (cleanL (Enc.clean (f := I)))) rfl rfl rfl (.cons 1 [1, 0] _ _ _ _ _ _ rfl rfl rfl rfl (clean_of (cleanL (Enc.clean (f := lV)))) rfl rfl rfl (.cons 2 [2, 0] _ _ _ _ _ _ rfl rfl rfl rfl (clean_of (cleanL (Enc.clean (f := lM)))) rfl rfl rfl (.nil _)))) rfl rfl rfl) ?_
          refine a_as ?_
          refine rN ?_
          refine sR ?_
          refine a_as ?_
          refine rN ?_
          refine sR ?_
          refine a_ldp ?_
          refine a_mv ?_
          obtain ⟨r18, hr18, h⟩ := bd h
          refine oP (x_call (xs := [.tmp 86, .tmp 87]) Try.call21 (t_laws_heldPresentation _ _ _ hr18) ⟨(agC _ rfl (cloA (cloC (cloS rfl rfl inferInstance) (cloC (cloS rfl rfl inferInstance) (cloC (cloS rfl rfl inferInstance) cloN)))) rfl), ⟨(agC _ rfl rfl rfl), trivial⟩⟩ (resC (f := I) inferInstance resN) rfl) ?_
          refine a_as ?_
          refine rN ?_
          refine CW.seq ?_
          refine sR ?_
          refine a_mv ?_
          refine a_lss ?_
          refine rN ?_
          refine cn h (fun hc h => ?_) (fun hc h => ?_)
          ·refine sR ?_
           refine a_as ?_
           refine rN ?_
           refine CW.ret ?_
           refine rA ?_
           obtain rfl := sI h
           exact rT
          ·refine CW.skip ?_
           refine nA ?_
           refine CW.seq ?_
           refine sR ?_
           refine a_mv ?_
           refine a_mv ?_
           refine a_neq ?_
           refine rN ?_
           refine cn h (fun hc h => ?_) (fun hc h => ?_)
           ·refine sR ?_
            refine a_as ?_
            refine rN ?_
            refine CW.ret ?_
            refine rA ?_
            obtain rfl := sI h
            exact rT
           ·refine CW.skip ?_
            refine nA ?_
            refine CW.seq ?_
            obtain ⟨r19, hr19, h⟩ := bd h
            obtain ⟨r20, hr20, h⟩ := bd h
            obtain ⟨r21, hr21, h⟩ := bd h
            refine CW.dk ?_
            refine d_ldp [(2, _)] ?_
            refine dG [(95, _)] [([(96, some (eSPresentation r19))], [(96, 0)])] ⟨rfl, trivial⟩ (fun E h => IxOk.opE (x_call (xs := [.tmp 95]) Try.call11 (t_laws_toPresentation _ _ hr19) ⟨(agC _ h.1 rfl rfl), trivial⟩ (resC (f := eSPresentation) inferInstance resN) rfl) rfl) ?_
            refine d_ldp [(3, _)] ?_
            refine dG [(97, _)] [([(98, some (eSModule r20))], [(98, 0)])] ⟨rfl, trivial⟩ (fun E h => IxOk.opE (x_call (xs := [.tmp 97]) Try.call12 (t_laws_toModule _ _ hr20) ⟨(agC _ h.1 rfl rfl), trivial⟩ (resC (f := eSModule) inferInstance resN) rfl) rfl) ?_
            refine dG [(96, _), (98, _)] [([(99, some (T.tup [eSPresentation r21.1, I r21.2]))], [(99, 0)])] ⟨rfl, rfl, trivial⟩ (fun E h => IxOk.opE (x_call (xs := [.tmp 96, .tmp 98]) Try.call27 (t_impl_SplitExtension _ _ _ hr21) ⟨(agC _ h.1 (cloA (cloC (cloO inferInstance) (cloC (cloO inferInstance) (cloC (cloO inferInstance) cloN)))) rfl), ⟨(agC _ h.2.1 (cloA (cloC rfl (cloC rfl (cloC (cloO inferInstance) cloN)))) rfl), trivial⟩⟩ (resC (f := eSPresentation) inferInstance (resC (f := I) inferInstance resN)) rfl) rfl) ?_
            refine d_mvT [(99, _)] ?_
            refine d_ext [(94, _)] ?_
            refine d_ext [(94, _)] ?_
            refine d_alloc [] ?_
            refine dG [(100, T.agg [T.same 99 [0, 0], T.same 99 [1, 0], T.same 99 [2, 0]]), (99, T.tup [eSPresentation r21.1, I r21.2]), (15, T.ptr (T.agg [L 1 I [], L 1 lV [], L 1 lM []]))] [([(100, some (T.agg [L 1 I r21.1.Orders, T.same 99 [1, 0], T.same 99 [2, 0]])), (99, some (T.tup [T.agg [T.any, L 1 lV r21.1.Powers, L 1 lM r21.1.Conjugates], I r21.2]))], [(100, 2), (99, 3)]), ([(100, some (T.agg [L 1 I r21.1.Orders, L 1 lV r21.1.Powers, T.same 99 [2, 0]])), (99, some (T.tup [T.agg [T.any, T.any, L 1 lM r21.1.Conjugates], I r21.2]))], [(100, 2), (99, 3)]), ([(100, some (eSPresentation r21.1)), (99, some (T.tup [T.agg [T.any, T.any, T.any], I r21.2]))], [(100, 2), (99, 3)]), ([(15, some (T.ptr (eSPresentation r21.1))), (100, some (T.agg [T.same 15 [0, 0], T.same 15 [1, 0], T.same 15 [2, 0]]))], [(15, 1), (100, 1)])] ⟨rfl, rfl, rfl, trivial⟩ (fun E h => IxOk.gh (Ghost.trf 100 [0] 99 [0, 0] _ _ h.1 rfl h.2.1 rfl rfl (clean_of (cleanL (Enc.clean (f := I)))) rfl) <| IxOk.gh (Ghost.trf 100 [1] 99 [1, 0] _ _ rfl rfl rfl rfl rfl (clean_of (cleanL (Enc.clean (f := lV)))) rfl) <| IxOk.gh (Ghost.trf 100 [2] 99 [2, 0] _ _ rfl rfl rfl rfl rfl (clean_of (cleanL (Enc.clean (f := lM)))) rfl) <| IxOk.opE (x_stp inf_34 rfl (locB (keepE (keepE (keepE h.2.2.1))) rfl) (keepE (keepE (keepE h.2.2.1))) rfl rfl rfl (clean_of (cleanA ⟨(cleanL (Enc.clean (f := I))), (cleanL (Enc.clean (f := lV))), (cleanL (Enc.clean (f := lM))), trivial⟩)) rfl) rfl) ?_
            refine d_as [(101, _)] ?_
            refine dNA mixedP ?_
            refine nA ?_
            refine CW.seq ?_
            refine CW.seq ?_
            refine CW.to [(6, T.ptr (eSPresentation r5.1)), (7, I r5.2), (10, T.ptr (eSPresentation r17.2)), (13, I r17.1), (15, T.ptr (eSPresentation r21.1)), (16, I r21.2)] ⟨rfl, rfl, rfl, rfl, rfl, rfl, trivial⟩ ?_
            refine CW.region ?_
            refine a_ldp ?_
            refine a_ldp ?_
            obtain ⟨r22, hr22, h⟩ := bd h
            refine oP (x_call (xs := [.tmp 102, .tmp 103]) Try.call15 (t_laws_eqPresentation _ _ _ hr22) ⟨(agC _ rfl (cloA (cloC (cloS rfl rfl inferInstance) (cloC (cloS rfl rfl inferInstance) (cloC (cloS rfl rfl inferInstance) cloN)))) rfl), ⟨(agC _ rfl (cloA (cloC (cloS rfl rfl inferInstance) (cloC (cloS rfl rfl inferInstance) (cloC (cloS rfl rfl inferInstance) cloN)))) rfl), trivial⟩⟩ (resC (f := B) inferInstance resN) rfl) ?_
            refine a_not ?_
            refine a_mv ?_
            refine RW.cases 106 _ rfl (fun hc => ?_) (fun hc => ?_)
            ·have h := cT hc h
             refine sk2 ?_
             refine sk2 ?_
             refine sk2 ?_
             refine a_pick ?_
             refine rN ?_
             refine CW.condT rfl ?_
             refine sR ?_
             refine a_as ?_
             refine rN ?_
             refine CW.ret ?_
             refine rA ?_
             obtain rfl := sI h
             exact rT
            ·have h := cF hc h
             refine g_mv ?_
             refine g_mv ?_
             refine g_neq ?_
             refine a_pick ?_
             refine rN ?_
             refine cn h (fun hc h => ?_) (fun hc h => ?_)
             ·refine sR ?_
              refine a_as ?_
              refine rN ?_
              refine CW.ret ?_
              refine rA ?_
              obtain rfl := sI h
              exact rT
             ·refine CW.skip ?_
              refine nA ?_
              refine sR ?_
              refine a_as ?_
              refine rN ?_
              refine sR ?_
              refine a_ldp ?_
              refine a_mv ?_
              obtain ⟨r23, hr23, h⟩ := bd h
              refine oP (x_call (xs := [.tmp 111, .tmp 112]) Try.call21 (t_laws_heldPresentation _ _ _ hr23) ⟨(agC _ rfl (cloA (cloC (cloS rfl rfl inferInstance) (cloC (cloS rfl rfl inferInstance) (cloC (cloS rfl rfl inferInstance) cloN)))) rfl), ⟨(agC _ rfl rfl rfl), trivial⟩⟩ (resC (f := I) inferInstance resN) rfl) ?_
              refine a_as ?_
              refine rN ?_
              refine CW.seq ?_
              refine sR ?_
              refine a_mv ?_
              refine a_lss ?_
              refine rN ?_
              refine cn h (fun hc h => ?_) (fun hc h => ?_)
              ·refine sR ?_
               refine a_as ?_
               refine rN ?_
               refine CW.ret ?_
               refine rA ?_
               obtain rfl := sI h
               exact rT
              ·refine CW.skip ?_
               refine nA ?_
               refine CW.seq ?_
               refine sR ?_
               refine a_mv ?_
               refine a_mv ?_
               refine a_neq ?_
               refine rN ?_
               refine cn h (fun hc h => ?_) (fun hc h => ?_)
               ·refine sR ?_
                refine a_as ?_
                refine rN ?_
                refine CW.ret ?_
                refine rA ?_
                obtain rfl := sI h
                exact rT
               ·refine CW.skip ?_
                refine nA ?_
                refine sR ?_
                refine a_as ?_
                refine rN ?_
                refine CW.ret ?_
                obtain rfl := sI h
                exact rT
end Go.Wk
